import PyProof.Rows.All
import Wide.All
import OpenK.AllK
import Wide.FinOn
import HandS.ForMost
import HandS.ForExc
import HandS.Flow
import HandS.Deep
import HandS.IsInst
import HandS.Conv
import HandS.Wide
import HandS.Style
import HandS.Finally
import HandS.TryMany
import HandS.ExcInit
import HandS.ExcField
import HandS.ExcIs
import HandS.DictTup
import HandS.Defaults
import HandS.ClsMeth
import HandS.WideBits
import HandS.ListItems
import HandS.HeadHook1
import HandS.HeadHook2
import PySem.Challenge.RW_trussyard_k51_a_bar_put
import HandS.Head0
import HandS.Head1
import HandS.Head2
import KE.KStateDown
import HandS.Walk
import HandS.ExcOwn
import HandS.Steps
import HandS.Text
import HandS.HeadEnd
set_option Elab.async false
set_option linter.all false
set_option maxRecDepth 100000
/-! A small logic over the hand layer: expressions and statements that only read and make new things, told by data alone. -/
namespace Ty
open PySem PySem.Spec PyProof.Rows L2

abbrev Num := Int × Int
structure Pin where
  name : Str
  x : Num
  y : Num
  ways : List (Num × Num)
structure Frm where
  pins : List Pin
  bars : List (Str × Str × Str)
/-- data: what a value is worth, whatever the heap -/
inductive Dat where
  | non | bl (b : Bool) | int (i : Int) | str (x : Str)
  | lst (ds : List Dat) | tup (ds : List Dat)
  | dK (kvs : List (Key × Dat)) | dT (kvs : List (List Key × Dat))
  | scr (ns : List Int)
  | frm (F : Frm)
  | ty (n : String)
  | kt (ks : List Key)
  | ptr (a : Addr)
def num (q : Num) : Dat := .tup [.int q.1, .int q.2]
def way (w : Num × Num) : Dat := .tup [num w.1, num w.2]
def spotD (p : Pin) : Dat := .tup [num p.x, num p.y]
def waysD (ws : List (Num × Num)) : Dat := .lst (ws.map way)
/-- the program's classes as the walk needs them -/
structure Sys where
  K : PySem.W.Frag
  CF : Addr
def fflds (s k j : Addr) : List (Str × V) := [("spots", .ref s), ("kept", .ref k), ("joints", .ref j)]
mutual
inductive Dt (S : Sys) (H : Hp) : V → Dat → Prop
  | non : Dt S H .non .non
  | bl (b : Bool) : Dt S H (.bl b) (.bl b)
  | int (i : Int) : Dt S H (.int i) (.int i)
  | str (x : Str) : Dt S H (.str x) (.str x)
  | ty (n : String) : Dt S H (.ty n) (.ty n)
  | ptr (a : Addr) : Dt S H (.ref a) (.ptr a)
  | kt {a : Addr} {ks : List Key} : H a = some (.tup (ks.map kV)) → Dt S H (.ref a) (.kt ks)
  | lst {a : Addr} {xs : List V} {ds : List Dat} : H a = some (.lst xs) → DtA S H xs ds → Dt S H (.ref a) (.lst ds)
  | tup {a : Addr} {xs : List V} {ds : List Dat} : SqT S.K H a xs → DtA S H xs ds → Dt S H (.ref a) (.tup ds)
  | dK {a : Addr} {xs : List (Key × V)} {ds : List (Key × Dat)} : H a = some (.dK xs) → DtK S H xs ds → Dt S H (.ref a) (.dK ds)
  | dT {a : Addr} {xs : List (List Key × V)} {ds : List (List Key × Dat)} : H a = some (.dT xs) → DtT S H xs ds → Dt S H (.ref a) (.dT ds)
  | scr {a : Addr} {ns : List Int} : SqL S.K H a (ns.map V.int) → Dt S H (.ref a) (.scr ns)
  | frm {a dx s k j : Addr} {F : Frm} {sp kp jt : List (Key × V)} : H a = some (.ins S.CF dx (fflds s k j)) → H s = some (.dK sp) → H k = some (.dK kp) → H j = some (.dK jt) →
      DtK S H sp (F.pins.map fun p => (Sum.inr p.name, spotD p)) → DtK S H kp (F.pins.map fun p => (Sum.inr p.name, waysD p.ways)) → DtK S H jt (F.bars.map fun b => (Sum.inr b.1, Dat.tup [.str b.2.1, .str b.2.2])) → Dt S H (.ref a) (.frm F)
inductive DtA (S : Sys) (H : Hp) : List V → List Dat → Prop
  | nil : DtA S H [] []
  | cons {v : V} {vs : List V} {d : Dat} {ds : List Dat} : Dt S H v d → DtA S H vs ds → DtA S H (v :: vs) (d :: ds)
inductive DtK (S : Sys) (H : Hp) : List (Key × V) → List (Key × Dat) → Prop
  | nil : DtK S H [] []
  | cons {k : Key} {v : V} {vs : List (Key × V)} {d : Dat} {ds : List (Key × Dat)} : Dt S H v d → DtK S H vs ds → DtK S H ((k, v) :: vs) ((k, d) :: ds)
inductive DtT (S : Sys) (H : Hp) : List (List Key × V) → List (List Key × Dat) → Prop
  | nil : DtT S H [] []
  | cons {k : List Key} {v : V} {vs : List (List Key × V)} {d : Dat} {ds : List (List Key × Dat)} : Dt S H v d → DtT S H vs ds → DtT S H ((k, v) :: vs) ((k, d) :: ds)
end
theorem sqT_mono {K : PySem.W.Frag} {H H' : Hp} {a : Addr} {xs : List V} (e : Same H H') (h : SqT K H a xs) : SqT K H' a xs := by
  rcases h with (h | ⟨o, h⟩) | h
  · exact .inl (.inl (e _ _ h))
  · exact .inl (.inr ⟨o, e _ _ h⟩)
  · exact .inr h
section
variable {S : Sys} {H H' : Hp}
mutual
theorem Dt.mono (e : Same H H') : ∀ {v : V} {d : Dat}, Dt S H v d → Dt S H' v d
  | _, _, .non => .non
  | _, _, .bl b => .bl b
  | _, _, .int i => .int i
  | _, _, .str x => .str x
  | _, _, .ty x => .ty x
  | _, _, .ptr a => .ptr a
  | _, _, .kt h => .kt (e _ _ h)
  | _, _, .lst h a => .lst (e _ _ h) (DtA.mono e a)
  | _, _, .tup h a => .tup (sqT_mono e h) (DtA.mono e a)
  | _, _, .dK h a => .dK (e _ _ h) (DtK.mono e a)
  | _, _, .dT h a => .dT (e _ _ h) (DtT.mono e a)
  | _, _, .scr h => .scr (e.seq h)
  | _, _, .frm h0 h1 h2 h3 a1 a2 a3 => .frm (e _ _ h0) (e _ _ h1) (e _ _ h2) (e _ _ h3) (DtK.mono e a1) (DtK.mono e a2) (DtK.mono e a3)
theorem DtA.mono (e : Same H H') : ∀ {v : List V} {d : List Dat}, DtA S H v d → DtA S H' v d
  | _, _, .nil => .nil
  | _, _, .cons h t => .cons (Dt.mono e h) (DtA.mono e t)
theorem DtK.mono (e : Same H H') : ∀ {v : List (Key × V)} {d : List (Key × Dat)}, DtK S H v d → DtK S H' v d
  | _, _, .nil => .nil
  | _, _, .cons h t => .cons (Dt.mono e h) (DtK.mono e t)
theorem DtT.mono (e : Same H H') : ∀ {v : List (List Key × V)} {d : List (List Key × Dat)}, DtT S H v d → DtT S H' v d
  | _, _, .nil => .nil
  | _, _, .cons h t => .cons (Dt.mono e h) (DtT.mono e t)
end
theorem DtA.length : ∀ {v : List V} {d : List Dat}, DtA S H v d → v.length = d.length
  | _, _, .nil => rfl
  | _, _, .cons h t => congrArg Nat.succ (DtA.length t)
theorem DtA.get : ∀ {v : List V} {d : List Dat} {i : Nat} {x : Dat}, DtA S H v d → d[i]? = some x → ∃ u, v[i]? = some u ∧ Dt S H u x
  | _, _, _, _, .nil, h => by simp at h
  | _, _, 0, _, .cons h t, e => by simp at e; subst e; exact ⟨_, rfl, h⟩
  | _, _, i + 1, x, .cons h t, e => by
    obtain ⟨u, h1, h2⟩ := DtA.get (i := i) (x := x) t (by simpa using e)
    exact ⟨u, by simpa using h1, h2⟩
theorem DtA.getV : ∀ {v : List V} {d : List Dat} {i : Nat} {u : V}, DtA S H v d → v[i]? = some u → ∃ x, d[i]? = some x ∧ Dt S H u x
  | _, _, _, _, .nil, h => by simp at h
  | _, _, 0, _, .cons h t, e => by simp at e; subst e; exact ⟨_, rfl, h⟩
  | _, _, i + 1, x, .cons h t, e => by
    obtain ⟨u, h1, h2⟩ := DtA.getV (i := i) (u := x) t (by simpa using e)
    exact ⟨u, by simpa using h1, h2⟩
theorem DtA.append : ∀ {v w : List V} {d e : List Dat}, DtA S H v d → DtA S H w e → DtA S H (v ++ w) (d ++ e)
  | _, _, _, _, .nil, h => h
  | _, _, _, _, .cons h t, q => .cons h (DtA.append t q)
theorem DtA.snoc {v : List V} {d : List Dat} {u : V} {x : Dat} (h : DtA S H v d) (q : Dt S H u x) : DtA S H (v ++ [u]) (d ++ [x]) := h.append (.cons q .nil)
theorem DtA.take : ∀ {v : List V} {d : List Dat} (n : Nat), DtA S H v d → DtA S H (v.take n) (d.take n)
  | _, _, 0, _ => .nil
  | _, _, _ + 1, .nil => .nil
  | _, _, n + 1, .cons h t => .cons h (DtA.take n t)
theorem DtA.drop : ∀ {v : List V} {d : List Dat} (n : Nat), DtA S H v d → DtA S H (v.drop n) (d.drop n)
  | _, _, 0, r => r
  | _, _, _ + 1, .nil => .nil
  | _, _, n + 1, .cons _ t => DtA.drop n t
theorem DtA.set : ∀ {v : List V} {d : List Dat} (n : Nat) {u : V} {x : Dat}, DtA S H v d → Dt S H u x → DtA S H (v.set n u) (d.set n x)
  | _, _, _, _, _, .nil, _ => .nil
  | _, _, 0, _, _, .cons h t, q => .cons q t
  | _, _, n + 1, _, _, .cons h t, q => .cons h (DtA.set n t q)
theorem DtA.atI {v : List V} {d : List Dat} {i : Int} {x : Dat} (h : DtA S H v d) (e : L2.atI d i = some x) : ∃ u, L2.atI v i = some u ∧ Dt S H u x := by
  unfold L2.atI at e ⊢
  rw [h.length]
  cases q : ixN d.length i with
  | none => rw [q] at e; cases e
  | some j =>
    rw [q] at e
    exact h.get (i := j) e
theorem DtA.ints : ∀ {v : List V} {ns : List Int}, DtA S H v (ns.map Dat.int) → v = ns.map V.int
  | _, [], .nil => rfl
  | _, n :: ns, .cons (.int _) t => by
    rw [DtA.ints t]
    rfl
theorem DtA.of_ints : ∀ {ns : List Int}, DtA S H (ns.map V.int) (ns.map Dat.int)
  | [] => .nil
  | n :: ns => .cons (.int n) DtA.of_ints
theorem DtA.strs : ∀ {v : List V} {ns : List Str}, DtA S H v (ns.map Dat.str) → v = ns.map V.str
  | _, [], .nil => rfl
  | _, n :: ns, .cons (.str _) t => by
    rw [DtA.strs t]
    rfl
theorem DtA.of_strs : ∀ {ns : List Str}, DtA S H (ns.map V.str) (ns.map Dat.str)
  | [] => .nil
  | n :: ns => .cons (.str n) DtA.of_strs
theorem DtA.bls : ∀ {v : List V} {ns : List Bool}, DtA S H v (ns.map Dat.bl) → v = ns.map V.bl
  | _, [], .nil => rfl
  | _, n :: ns, .cons (.bl _) t => by
    rw [DtA.bls t]
    rfl
theorem DtK.length : ∀ {v : List (Key × V)} {d : List (Key × Dat)}, DtK S H v d → v.length = d.length
  | _, _, .nil => rfl
  | _, _, .cons h t => congrArg Nat.succ (DtK.length t)
theorem DtK.keys : ∀ {v : List (Key × V)} {d : List (Key × Dat)}, DtK S H v d → v.map (·.1) = d.map (·.1)
  | _, _, .nil => rfl
  | _, _, .cons h t => congrArg (List.cons _) (DtK.keys t)
theorem DtK.snoc : ∀ {v : List (Key × V)} {d : List (Key × Dat)} {k : Key} {u : V} {x : Dat}, DtK S H v d → Dt S H u x → DtK S H (v ++ [(k, u)]) (d ++ [(k, x)])
  | _, _, _, _, _, .nil, q => .cons q .nil
  | _, _, _, _, _, .cons h t, q => .cons h (DtK.snoc t q)
/-- what data a key has -/
def valD {κ α : Type} [DecidableEq κ] (ds : List (κ × α)) (k : κ) : Option α := (ds.find? fun kv => decide (kv.1 = k)).map (·.2)
theorem DtK.val : ∀ {v : List (Key × V)} {d : List (Key × Dat)} (k : Key), DtK S H v d → (valV v k = none ∧ valD d k = none) ∨ ∃ u x, valV v k = some u ∧ valD d k = some x ∧ Dt S H u x
  | _, _, k, .nil => .inl ⟨rfl, rfl⟩
  | _, _, k, @DtK.cons _ _ k' v vs d ds h t => by
    by_cases e : k' = k
    · refine .inr ⟨v, d, ?_, ?_, h⟩
      · simp [valV, e]
      · simp [valD, e]
    · have q := DtK.val k t
      have e1 : valV ((k', v) :: vs) k = valV vs k := by simp [valV, e]
      have e2 : valD ((k', d) :: ds) k = valD ds k := by simp [valD, e]
      rw [e1, e2]
      exact q
theorem DtT.length : ∀ {v : List (List Key × V)} {d : List (List Key × Dat)}, DtT S H v d → v.length = d.length
  | _, _, .nil => rfl
  | _, _, .cons h t => congrArg Nat.succ (DtT.length t)
theorem DtT.keys : ∀ {v : List (List Key × V)} {d : List (List Key × Dat)}, DtT S H v d → v.map (·.1) = d.map (·.1)
  | _, _, .nil => rfl
  | _, _, .cons h t => congrArg (List.cons _) (DtT.keys t)
theorem DtT.val : ∀ {v : List (List Key × V)} {d : List (List Key × Dat)} (k : List Key), DtT S H v d → (valV v k = none ∧ valD d k = none) ∨ ∃ u x, valV v k = some u ∧ valD d k = some x ∧ Dt S H u x
  | _, _, k, .nil => .inl ⟨rfl, rfl⟩
  | _, _, k, @DtT.cons _ _ k' v vs d ds h t => by
    by_cases e : k' = k
    · refine .inr ⟨v, d, ?_, ?_, h⟩
      · simp [valV, e]
      · simp [valD, e]
    · have q := DtT.val k t
      have e1 : valV ((k', v) :: vs) k = valV vs k := by simp [valV, e]
      have e2 : valD ((k', d) :: ds) k = valD ds k := by simp [valD, e]
      rw [e1, e2]
      exact q
end

/-! ### the steps of a heap: H1 the part that stands still, H the whole -/
structure Step (H1 H H2 H' : Hp) : Prop where
  s1 : Same H1 H2
  s2 : Same H2 H'
  s3 : Same H H'
  fr : ∀ b o, H2 b = some o → H1 b = some o ∨ H b = none
theorem Step.refl {H1 H : Hp} (e : Same H1 H) : Step H1 H H1 H := ⟨Same.refl _, e, Same.refl _, fun _ _ h => .inl h⟩
theorem Step.trans {H1 H H2 H' H3 H'' : Hp} (a : Step H1 H H2 H') (b : Step H2 H' H3 H'') : Step H1 H H3 H'' :=
  ⟨a.s1.trans b.s1, b.s2, a.s3.trans b.s3, fun c o h => (b.fr c o h).elim (fun q => a.fr c o q) fun q => .inr (a.s3.free q)⟩
theorem same_new {H : Hp} {p : Addr} {o : HO} (h : H p = none) : Same H (upd H p o) := fun b u e => by
  rw [upd_ne (ne_of_none e h)]
  exact e
/-- an object that the still part does not hold may change -/
theorem same_mut {H H' : Hp} {p : Addr} {o : HO} (e : Same H H') (h : H p = none) : Same H (upd H' p o) := fun b u ha => by
  rw [upd_ne (ne_of_none ha h)]
  exact e b u ha
theorem same_upd {H H' : Hp} {p : Addr} {o : HO} (e : Same H H') : Same (upd H p o) (upd H' p o) := fun b u h => by
  by_cases q : b = p
  · subst q
    rw [upd_same] at h ⊢
    exact h
  · rw [upd_ne q] at h ⊢
    exact e b u h
theorem Step.new {H1 H : Hp} {p : Addr} {o : HO} (e : Same H1 H) (h : H p = none) : Step H1 H (upd H1 p o) (upd H p o) :=
  ⟨same_new (e.free h), same_upd e, same_new h, fun b u q => by
    by_cases z : b = p
    · subst z
      exact .inr h
    · rw [upd_ne z] at q
      exact .inl q⟩

/-! ### what names hold -/
abbrev Gam := List (Option Dat)
structure EnvD (S : Sys) (H : Hp) (σ : L2.St) (G : Gam) : Prop where
  len : σ.length = G.length
  at_ : ∀ (i : Nat) (d : Dat), G[i]? = some (some d) → ∃ v, σ[i]? = some (some v) ∧ Dt S H v d
section
variable {S : Sys} {H H' : Hp} {σ : L2.St} {G G' : Gam}
theorem EnvD.mono (e : Same H H') (h : EnvD S H σ G) : EnvD S H' σ G := ⟨h.len, fun i d q => by
  obtain ⟨v, h1, h2⟩ := h.at_ i d q
  exact ⟨v, h1, h2.mono e⟩⟩
theorem EnvD.set {i : Nat} {v : V} {d : Dat} (h : EnvD S H σ G) (q : Dt S H v d) : EnvD S H (σ.set i (some v)) (G.set i (some d)) := ⟨by rw [List.length_set, List.length_set, h.len], fun j x e => by
  by_cases z : j = i
  · subst z
    have hl : j < G.length := by
      have := (List.getElem?_eq_some_iff.mp e).1
      rwa [List.length_set] at this
    rw [List.getElem?_set_self hl] at e
    cases e
    exact ⟨v, List.getElem?_set_self (by rw [h.len]; exact hl), q⟩
  · rw [List.getElem?_set_ne (Ne.symm z)] at e
    obtain ⟨u, h1, h2⟩ := h.at_ j x e
    exact ⟨u, by rw [List.getElem?_set_ne (Ne.symm z)]; exact h1, h2⟩⟩
/-- a name that is not told any more -/
theorem EnvD.setN {i : Nat} {v : Option V} (h : EnvD S H σ G) : EnvD S H (σ.set i v) (G.set i none) := ⟨by rw [List.length_set, List.length_set, h.len], fun j x e => by
  by_cases z : j = i
  · subst z
    have hl : j < G.length := by
      have := (List.getElem?_eq_some_iff.mp e).1
      rwa [List.length_set] at this
    rw [List.getElem?_set_self hl] at e
    cases e
  · rw [List.getElem?_set_ne (Ne.symm z)] at e
    obtain ⟨u, h1, h2⟩ := h.at_ j x e
    exact ⟨u, by rw [List.getElem?_set_ne (Ne.symm z)]; exact h1, h2⟩⟩
/-- G' says no more than G -/
def Less (G' G : Gam) : Prop := G'.length = G.length ∧ ∀ (i : Nat) (d : Dat), G'[i]? = some (some d) → G[i]? = some (some d)
theorem EnvD.less (l : Less G' G) (h : EnvD S H σ G) : EnvD S H σ G' := ⟨by rw [h.len, l.1], fun i d e => h.at_ i d (l.2 i d e)⟩
theorem EnvD.wipe {i : Nat} (h : EnvD S H σ G) : EnvD S H (L2.wipe σ [i]) (G.set i none) := by
  have e : L2.wipe σ [i] = σ.set i none := rfl
  rw [e]
  exact h.setN
end
theorem Less.refl (G : Gam) : Less G G := ⟨rfl, fun _ _ h => h⟩
theorem Less.trans {A B C : Gam} (a : Less A B) (b : Less B C) : Less A C := ⟨a.1.trans b.1, fun i d h => b.2 i d (a.2 i d h)⟩

/-! ### what a reading is worth -/
section
variable (S : Sys)
def EvD (te : TE) (G : Gam) (d : Dat) : Prop := ∀ σ H1 H, Same H1 H → EnvD S H1 σ G → ∀ Q : VK, (∀ H2 H' v, Step H1 H H2 H' → Dt S H2 v d → Q v H') → te σ H Q
def EvA (ta : TA) (G : Gam) (ds : List Dat) : Prop := ∀ σ H1 H, Same H1 H → EnvD S H1 σ G → ∀ Q : List V → Hp → Prop, (∀ H2 H' vs, Step H1 H H2 H' → DtA S H2 vs ds → Q vs H') → ta σ H Q
def EvT (tt : TT) (G : Gam) (b : Bool) : Prop := ∀ σ H1 H, Same H1 H → EnvD S H1 σ G → ∀ Q : Bool → Hp → Prop, (∀ H2 H', Step H1 H H2 H' → Q b H') → tt σ H Q
def EvO (to : TO) (G : Gam) (o : Option Int) : Prop := ∀ σ H1 H, Same H1 H → EnvD S H1 σ G → ∀ Q : Option Int → Hp → Prop, (∀ H2 H', Step H1 H H2 H' → Q o H') → to σ H Q
/-- an operation on values -/
def RvD (r : R2) (x y z : Dat) : Prop := ∀ H1 H u v, Same H1 H → Dt S H1 u x → Dt S H1 v y → ∀ Q : VK, (∀ H2 H' w, Step H1 H H2 H' → Dt S H2 w z → Q w H') → r u v H Q
/-- a call on values -/
def RcD (r : List V → Hp → VK → Prop) (xs : List Dat) (z : Dat) : Prop := ∀ H1 H vs, Same H1 H → DtA S H1 vs xs → ∀ Q : VK, (∀ H2 H' w, Step H1 H H2 H' → Dt S H2 w z → Q w H') → r vs H Q
end
section
variable {S : Sys} {te ta tb : TE} {G : Gam} {d x y z : Dat}
theorem ed_var {i : Nat} (h : G[i]? = some (some d)) : EvD S (tVar i) G d := fun σ H1 H e E Q q => by
  obtain ⟨v, h1, h2⟩ := E.at_ i d h
  exact ⟨v, h1, q H1 H v (Step.refl e) h2⟩
theorem ed_c {v : V} (h : ∀ H, Dt S H v d) : EvD S (tC v) G d := fun σ H1 H e E Q q => q H1 H v (Step.refl e) (h H1)
theorem ed_int {i : Int} : EvD S (tC (.int i)) G (.int i) := ed_c fun _ => .int i
theorem ed_bl {b : Bool} : EvD S (tC (.bl b)) G (.bl b) := ed_c fun _ => .bl b
theorem ed_str {x : Str} : EvD S (tC (.str x)) G (.str x) := ed_c fun _ => .str x
theorem ed_non : EvD S (tC .non) G .non := ed_c fun _ => .non
theorem ed_ty {n : String} : EvD S (tC (.ty n)) G (.ty n) := ed_c fun _ => .ty n
theorem ed_op {r : R2} (ha : EvD S ta G x) (hb : EvD S tb G y) (hr : RvD S r x y z) : EvD S (tOp r ta tb) G z := fun σ H1 H e E Q q =>
  ha σ H1 H e E _ fun H2 H' u s1 d1 => hb σ H2 H' s1.s2 (E.mono s1.s1) _ fun H3 H'' v s2 d2 => hr H3 H'' u v s2.s2 (d1.mono s2.s1) d2 Q fun H4 H4' w s3 d3 => q H4 H4' w ((s1.trans s2).trans s3) d3
theorem ea_nil : EvA S tNil G [] := fun σ H1 H e E Q q => q H1 H [] (Step.refl e) .nil
theorem ea_cons {tr : TA} {ds : List Dat} (ha : EvD S ta G d) (hr : EvA S tr G ds) : EvA S (tCons ta tr) G (d :: ds) := fun σ H1 H e E Q q =>
  ha σ H1 H e E _ fun H2 H' u s1 d1 => hr σ H2 H' s1.s2 (E.mono s1.s1) _ fun H3 H'' vs s2 d2 => q H3 H'' (u :: vs) (s1.trans s2) (.cons (d1.mono s2.s1) d2)
theorem ed_tup {t : TA} {ds : List Dat} (h : EvA S t G ds) (hl : ds.length ≤ 1000 := by first | exact Nat.le_of_ble_eq_true rfl | simp) : EvD S (tTup t) G (.tup ds) := fun σ H1 H e E Q q =>
  h σ H1 H e E _ fun H2 H' vs s1 d1 => ⟨by rw [d1.length]; exact Nat.le_of_lt (small1000 hl), fun p hp => q _ _ _ (s1.trans (Step.new s1.s2 hp)) (.tup (SqT.of upd_same) (d1.mono (same_new (s1.s2.free hp))))⟩
theorem ed_lst {t : TA} {ds : List Dat} (h : EvA S t G ds) (hl : ds.length ≤ 1000 := by first | exact Nat.le_of_ble_eq_true rfl | simp) : EvD S (tLst t) G (.lst ds) := fun σ H1 H e E Q q =>
  h σ H1 H e E _ fun H2 H' vs s1 d1 => ⟨by rw [d1.length]; exact Nat.le_of_lt (small1000 hl), fun p hp => q _ _ _ (s1.trans (Step.new s1.s2 hp)) (.lst upd_same (d1.mono (same_new (s1.s2.free hp))))⟩
theorem ed_cb {r : List V → Hp → VK → Prop} {t : TA} {ds : List Dat} (h : EvA S t G ds) (hr : RcD S r ds z) : EvD S (tCB r t) G z := fun σ H1 H e E Q q =>
  h σ H1 H e E _ fun H2 H' vs s1 d1 => hr H2 H' vs s1.s2 d1 Q fun H3 H'' w s2 d2 => q H3 H'' w (s1.trans s2) d2
/-! operations -/
theorem rv_now {r : R2} (h : ∀ H1 H u v, Same H1 H → Dt S H1 u x → Dt S H1 v y → ∀ Q : VK, (∀ w, Dt S H1 w z → Q w H) → r u v H Q) : RvD S r x y z := fun H1 H u v e a b Q q =>
  h H1 H u v e a b Q fun w dw => q H1 H w (Step.refl e) dw
theorem rv_I {C : Int → Int → Prop} {g : Int → Int → Int} {i j : Int} (hc : C i j) : RvD S (rI C fun i j => .int (g i j)) (.int i) (.int j) (.int (g i j)) := rv_now fun H1 H u v e a b Q q => by
  cases a
  cases b
  exact ⟨i, j, rfl, rfl, hc, q _ (.int _)⟩
theorem rv_I0 {g : Int → Int → Int} {i j : Int} : RvD S (rI0 fun i j => .int (g i j)) (.int i) (.int j) (.int (g i j)) := rv_now fun H1 H u v e a b Q q => by
  cases a
  cases b
  exact ⟨i, j, rfl, rfl, q _ (.int _)⟩
theorem rv_B0 {g : Int → Int → Bool} {i j : Int} : RvD S (rI0 fun i j => .bl (g i j)) (.int i) (.int j) (.bl (g i j)) := rv_now fun H1 H u v e a b Q q => by
  cases a
  cases b
  exact ⟨i, j, rfl, rfl, q _ (.bl _)⟩
theorem rv_ixT {ds : List Dat} {i : Int} (h : atI ds i = some z) : RvD S (rIxT S.K) (.tup ds) (.int i) z := rv_now fun H1 H u v e a b Q q => by
  cases b
  cases a with
  | tup ha hd =>
    obtain ⟨w, h1, h2⟩ := hd.atI h
    exact ⟨_, _, i, w, rfl, rfl, sqT_mono e ha, h1, q w h2⟩
theorem rv_ixL {ds : List Dat} {i : Int} (h : atI ds i = some z) : RvD S (rIxL S.K) (.lst ds) (.int i) z := rv_now fun H1 H u v e a b Q q => by
  cases b
  cases a with
  | lst ha hd =>
    obtain ⟨w, h1, h2⟩ := hd.atI h
    exact ⟨_, _, i, w, rfl, rfl, SqL.of (e _ _ ha), h1, q w h2⟩
theorem rv_ixScr {ns : List Int} {i : Int} {n : Int} (h : atI ns i = some n) : RvD S (rIxL S.K) (.scr ns) (.int i) (.int n) := rv_now fun H1 H u v e a b Q q => by
  cases b
  cases a with
  | scr ha =>
    refine ⟨_, _, i, .int n, rfl, rfl, e.seq ha, ?_, q _ (.int n)⟩
    unfold atI at h ⊢
    rw [List.length_map]
    cases k : ixN ns.length i with
    | none => rw [k] at h; cases h
    | some j =>
      rw [k] at h
      have h2 : ns[j]? = some n := h
      show (ns.map V.int)[j]? = _
      rw [List.getElem?_map, h2]
      rfl
def scalD : Dat → Option V
  | .non => some .non
  | .bl b => some (.bl b)
  | .int i => some (.int i)
  | .str x => some (.str x)
  | _ => none
theorem scalD_ok {H : Hp} {v u : V} (h : Dt S H v d) (e : scalD d = some u) : v = u := by
  cases h <;> cases e <;> rfl
theorem rv_eq {u v : V} (hx : scalD x = some u) (hy : scalD y = some v) (hs : scal u v = true) : RvD S rEq x y (.bl (decide (u = v))) := rv_now fun H1 H u' v' e a b Q q => by
  rw [scalD_ok a hx, scalD_ok b hy]
  exact ⟨hs, q _ (.bl _)⟩
theorem rv_ne {u v : V} (hx : scalD x = some u) (hy : scalD y = some v) (hs : scal u v = true) : RvD S rNe x y (.bl (!decide (u = v))) := rv_now fun H1 H u' v' e a b Q q => by
  rw [scalD_ok a hx, scalD_ok b hy]
  exact ⟨hs, q _ (.bl _)⟩
/-! tests -/
variable {t u : TT} {a b : Bool}
theorem et_test (h : EvD S te G (.bl b)) : EvT S (tTest te) G b := fun σ H1 H e E Q q => h σ H1 H e E _ fun H2 H' v s1 d1 => by
  cases d1
  exact ⟨b, rfl, q H2 H' s1⟩
theorem et_B (h : EvD S te G (.bl b)) : EvT S (tB te) G b := fun σ H1 H e E Q q => h σ H1 H e E _ fun H2 H' v s1 d1 => by
  cases d1
  exact ⟨b, rfl, q H2 H' s1⟩
theorem et_and (h1 : EvT S t G a) (h2 : a = true → EvT S u G b) : EvT S (tAnd t u) G (a && b) := fun σ H1 H e E Q q => h1 σ H1 H e E _ fun H2 H' s1 => by
  cases a with
  | true => exact iteT (h2 rfl σ H2 H' s1.s2 (E.mono s1.s1) Q fun H3 H'' s2 => q H3 H'' (s1.trans s2))
  | false => exact iteF (q H2 H' s1)
theorem et_or (h1 : EvT S t G a) (h2 : a = false → EvT S u G b) : EvT S (tOr t u) G (a || b) := fun σ H1 H e E Q q => h1 σ H1 H e E _ fun H2 H' s1 => by
  cases a with
  | true => exact iteT (q H2 H' s1)
  | false => exact iteF (h2 rfl σ H2 H' s1.s2 (E.mono s1.s1) Q fun H3 H'' s2 => q H3 H'' (s1.trans s2))
theorem et_not (h1 : EvT S t G a) : EvT S (tNot t) G (!a) := fun σ H1 H e E Q q => h1 σ H1 H e E _ fun H2 H' s1 => q H2 H' s1
theorem EvT.to (h : EvT S t G a) (e : a = b) : EvT S t G b := e ▸ h
theorem EvD.to (h : EvD S te G x) (e : x = y) : EvD S te G y := e ▸ h
/-! values and, or, not -/
theorem ed_andV (h1 : EvD S ta G (.bl a)) (h2 : a = true → EvD S tb G (.bl b)) : EvD S (tAndV ta tb) G (.bl (a && b)) := fun σ H1 H e E Q q => h1 σ H1 H e E _ fun H2 H' v s1 d1 => by
  cases d1
  refine ⟨a, rfl, ?_⟩
  cases a with
  | true => exact iteT (h2 rfl σ H2 H' s1.s2 (E.mono s1.s1) Q fun H3 H'' v s2 d2 => q H3 H'' v (s1.trans s2) d2)
  | false => exact iteF (q H2 H' _ s1 (.bl _))
theorem ed_orV (h1 : EvD S ta G (.bl a)) (h2 : a = false → EvD S tb G (.bl b)) : EvD S (tOrV ta tb) G (.bl (a || b)) := fun σ H1 H e E Q q => h1 σ H1 H e E _ fun H2 H' v s1 d1 => by
  cases d1
  refine ⟨a, rfl, ?_⟩
  cases a with
  | true => exact iteT (q H2 H' _ s1 (.bl _))
  | false => exact iteF (h2 rfl σ H2 H' s1.s2 (E.mono s1.s1) Q fun H3 H'' v s2 d2 => q H3 H'' v (s1.trans s2) d2)
theorem ed_notV (h1 : EvD S ta G (.bl a)) : EvD S (tNotV ta) G (.bl (!a)) := fun σ H1 H e E Q q => h1 σ H1 H e E _ fun H2 H' v s1 d1 => by
  cases d1
  exact ⟨a, rfl, q H2 H' _ s1 (.bl _)⟩
theorem ed_if (h1 : EvT S t G a) (h2 : a = true → EvD S ta G z) (h3 : a = false → EvD S tb G z) : EvD S (tIf t ta tb) G z := fun σ H1 H e E Q q => h1 σ H1 H e E _ fun H2 H' s1 => by
  cases a with
  | true => exact iteT (h2 rfl σ H2 H' s1.s2 (E.mono s1.s1) Q fun H3 H'' v s2 d2 => q H3 H'' v (s1.trans s2) d2)
  | false => exact iteF (h3 rfl σ H2 H' s1.s2 (E.mono s1.s1) Q fun H3 H'' v s2 d2 => q H3 H'' v (s1.trans s2) d2)
end
end Ty
set_option Elab.async false
set_option linter.all false
set_option maxRecDepth 100000
/-! Statements, loops, comprehensions, calls in the same logic. -/
namespace Ty
open PySem PySem.Spec PyProof.Rows L2

inductive Out where
  | nx (G : Gam) | rt (d : Dat) | bk (G : Gam) | ct (G : Gam)
/-- the ends of a block serve what is told of its outcomes -/
structure Fin (S : Sys) (H1 H : Hp) (D : Ends) (P : Out → Prop) : Prop where
  nx : ∀ G, P (.nx G) → ∀ σ H2 H', Step H1 H H2 H' → EnvD S H2 σ G → D.nx σ H'
  rt : ∀ d, P (.rt d) → ∀ H2 H' v, Step H1 H H2 H' → Dt S H2 v d → D.rt v H'
  bk : ∀ G, P (.bk G) → ∀ σ H2 H', Step H1 H H2 H' → EnvD S H2 σ G → D.bk σ H'
  ct : ∀ G, P (.ct G) → ∀ σ H2 H', Step H1 H H2 H' → EnvD S H2 σ G → D.ct σ H'
def RunD (S : Sys) (ts : TS) (G : Gam) (P : Out → Prop) : Prop := ∀ σ H1 H D, Same H1 H → EnvD S H1 σ G → Fin S H1 H D P → ts D σ H
section
variable {S : Sys} {te ta tb : TE} {G : Gam} {d x y z : Dat} {t u : TS} {P P' : Out → Prop} {c : TT} {b : Bool}
theorem Fin.step {H1 H H2 H' : Hp} {D : Ends} (s : Step H1 H H2 H') (f : Fin S H1 H D P) : Fin S H2 H' D P :=
  ⟨fun G p σ H3 H'' q e => f.nx G p σ H3 H'' (s.trans q) e, fun d p H3 H'' v q e => f.rt d p H3 H'' v (s.trans q) e, fun G p σ H3 H'' q e => f.bk G p σ H3 H'' (s.trans q) e, fun G p σ H3 H'' q e => f.ct G p σ H3 H'' (s.trans q) e⟩
theorem Fin.imp {H1 H : Hp} {D : Ends} (h : ∀ o, P' o → P o) (f : Fin S H1 H D P) : Fin S H1 H D P' :=
  ⟨fun G p => f.nx G (h _ p), fun d p => f.rt d (h _ p), fun G p => f.bk G (h _ p), fun G p => f.ct G (h _ p)⟩
theorem RunD.imp (r : RunD S t G P') (h : ∀ o, P' o → P o) : RunD S t G P := fun σ H1 H D e E f => r σ H1 H D e E (f.imp h)
theorem RunD.less {G' : Gam} (r : RunD S t G' P) (l : Less G' G) : RunD S t G P := fun σ H1 H D e E f => r σ H1 H D e (E.less l) f
theorem EvD.less {G' : Gam} (r : EvD S te G' d) (l : Less G' G) : EvD S te G d := fun σ H1 H e E f => r σ H1 H e (E.less l) f
/-- behind the first block -/
def Then (S : Sys) (u : TS) (P : Out → Prop) : Out → Prop
  | .nx G => RunD S u G P
  | o => P o
theorem rd_seq (h : RunD S t G (Then S u P)) : RunD S (tSeq t u) G P := fun σ H1 H D e E f => h σ H1 H { D with nx := u D } e E
  ⟨fun G' r σ' H2 H' s E' => r σ' H2 H' D s.s2 E' (f.step s), fun d p => f.rt d p, fun G' p => f.bk G' p, fun G' p => f.ct G' p⟩
theorem rd_next (p : P (.nx G)) : RunD S tNext G P := fun σ H1 H D e E f => f.nx G p σ H1 H (Step.refl e) E
theorem rd_brk (p : P (.bk G)) : RunD S tBreak G P := fun σ H1 H D e E f => f.bk G p σ H1 H (Step.refl e) E
theorem rd_cont (p : P (.ct G)) : RunD S tCont G P := fun σ H1 H D e E f => f.ct G p σ H1 H (Step.refl e) E
theorem rd_set {i : Nat} (h : EvD S te G d) (p : P (.nx (G.set i (some d)))) : RunD S (tAsg te (gName i)) G P := fun σ H1 H D e E f =>
  h σ H1 H e E _ fun H2 H' v s dv => f.nx _ p _ H2 H' s ((E.mono s.s1).set dv)
theorem rd_drop (h : EvD S te G d) (p : P (.nx G)) : RunD S (tDrop te) G P := fun σ H1 H D e E f =>
  h σ H1 H e E _ fun H2 H' v s dv => f.nx _ p _ H2 H' s (E.mono s.s1)
theorem rd_ret (h : EvD S te G d) (p : P (.rt d)) : RunD S (tRet te) G P := fun σ H1 H D e E f =>
  h σ H1 H e E _ fun H2 H' v s dv => f.rt _ p H2 H' v s dv
theorem rd_retN (p : P (.rt .non)) : RunD S tRetN G P := fun σ H1 H D e E f => f.rt _ p H1 H .non (Step.refl e) .non
theorem rd_if (h : EvT S c G b) (h1 : b = true → RunD S t G P) (h2 : b = false → RunD S u G P) : RunD S (tIfS c t u) G P := fun σ H1 H D e E f =>
  h σ H1 H e E _ fun H2 H' s => by
    cases b with
    | true => exact iteT (h1 rfl σ H2 H' D s.s2 (E.mono s.s1) (f.step s))
    | false => exact iteF (h2 rfl σ H2 H' D s.s2 (E.mono s.s1) (f.step s))
theorem rd_par {i j : Nat} {t : TA} (h : EvA S t G [x, y]) (p : P (.nx ((G.set i (some x)).set j (some y)))) : RunD S (tPar i j t) G P := fun σ H1 H D e E f =>
  h σ H1 H e E _ fun H2 H' vs s dv => by
    cases dv with
    | cons d1 t1 =>
      cases t1 with
      | cons d2 t2 =>
        cases t2
        exact ⟨_, _, rfl, f.nx _ p _ H2 H' s (((E.mono s.s1).set d1).set d2)⟩
/-! targets -/
def TgD (S : Sys) (g : TG) (d : Dat) (G G' : Gam) : Prop := ∀ v σ H1 H, Same H1 H → EnvD S H1 σ G → Dt S H1 v d → ∀ Q : L2.St → Hp → Prop, (∀ σ', EnvD S H1 σ' G' → Q σ' H) → g v σ H Q
def TgsD (S : Sys) (g : TGs) (ds : List Dat) (G G' : Gam) : Prop := ∀ vs σ H1 H, Same H1 H → EnvD S H1 σ G → DtA S H1 vs ds → ∀ Q : L2.St → Hp → Prop, (∀ σ', EnvD S H1 σ' G' → Q σ' H) → g vs σ H Q
theorem tg_name {i : Nat} : TgD S (gName i) d G (G.set i (some d)) := fun v σ H1 H e E dv Q q => q _ (E.set dv)
theorem tgs_nil : TgsD S gNil [] G G := fun vs σ H1 H e E dv Q q => by
  cases dv
  exact ⟨rfl, q σ E⟩
theorem tgs_cons {g : TG} {gs : TGs} {ds : List Dat} {G1 G2 : Gam} (h : TgD S g d G G1) (hs : TgsD S gs ds G1 G2) : TgsD S (gCons g gs) (d :: ds) G G2 := fun vs σ H1 H e E dv Q q => by
  cases dv with
  | cons d1 t1 => exact ⟨_, _, rfl, h _ σ H1 H e E d1 _ fun σ' E' => hs _ σ' H1 H e E' t1 Q q⟩
theorem tg_tup {n : Nat} {gs : TGs} {ds : List Dat} {G' : Gam} (hs : TgsD S gs ds G G') (hl : ds.length = n := by rfl) : TgD S (gTup S.K n gs) (.tup ds) G G' := fun v σ H1 H e E dv Q q => by
  cases dv with
  | tup ha hd => exact ⟨_, _, rfl, sqT_mono e ha, by rw [hd.length]; exact hl, hs _ σ H1 H e E hd Q q⟩
theorem rd_asg {g : TG} {G' : Gam} (h : EvD S te G d) (hg : TgD S g d G G') (p : P (.nx G')) : RunD S (tAsg te g) G P := fun σ H1 H D e E f =>
  h σ H1 H e E _ fun H2 H' v s dv => hg v σ H2 H' s.s2 (E.mono s.s1) dv _ fun σ' E' => f.nx _ p σ' H2 H' s E'
/-! loops -/
/-- the outcomes of a turn: the next turn's word I, or the loop's own outcomes P -/
def Turns (I : Gam → Prop) (P : Out → Prop) : Out → Prop
  | .nx G => I G
  | .ct G => I G
  | .bk G => P (.nx G)
  | .rt d => P (.rt d)
theorem Fin.turns {H1 H H2 H' : Hp} {D : Ends} {I : Gam → Prop} {N : L2.St → Hp → Prop} (s : Step H1 H H2 H') (f : Fin S H1 H D P) (h : ∀ G, I G → ∀ σ H3 H'', Step H2 H' H3 H'' → EnvD S H3 σ G → N σ H'') :
    Fin S H2 H' { D with nx := N, ct := N, bk := D.nx } (Turns I P) :=
  ⟨fun G p => h G p, fun d p H3 H'' v q e => f.rt d p H3 H'' v (s.trans q) e, fun G p σ H3 H'' q e => f.nx G p σ H3 H'' (s.trans q) e, fun G p => h G p⟩
theorem rd_while (I : Nat → Gam → Prop) (m0 : Nat) (h0 : I m0 G)
    (hs : ∀ m G, I m G → ∃ b, EvT S c G b ∧ (b = true → RunD S t G (Turns (fun G' => ∃ m', m' < m ∧ I m' G') P)) ∧ (b = false → P (.nx G))) : RunD S (tWhile c t) G P := fun σ H1 H D e E f => by
  refine ⟨fun m σ' H' => ∃ H2 G', Step H1 H H2 H' ∧ EnvD S H2 σ' G' ∧ I m G', ⟨m0, H1, G, Step.refl e, E, h0⟩, ?_⟩
  rintro m σ' H' ⟨H2, G', s, E', i⟩
  obtain ⟨b, ht, hT, hF⟩ := hs m G' i
  refine ht σ' H2 H' s.s2 E' _ fun H3 H'' s2 => ?_
  cases b with
  | true => exact iteT ⟨_, fun _ _ n => n, hT rfl σ' H3 H'' _ s2.s2 (E'.mono s2.s1) (Fin.turns (s.trans s2) f fun G3 ⟨m', l, i'⟩ σ3 H4 H4' s3 E3 => ⟨m', l, H4, G3, (s.trans s2).trans s3, E3, i'⟩)⟩
  | false => exact iteF (f.nx G' (hF rfl) σ' H3 H'' (s.trans s2) (E'.mono s2.s1))
theorem rd_for_list {g : TG} {ds : List Dat} (hl : EvD S te G (.lst ds)) (I : Nat → Gam → Prop) (h0 : I 0 G)
    (hs : ∀ (k : Nat) (d : Dat) (G : Gam), ds[k]? = some d → I k G → ∃ G', TgD S g d G G' ∧ RunD S t G' (Turns (I (k + 1)) P)) (hd : ∀ G, I ds.length G → P (.nx G)) : RunD S (tFor (iList S.K te) g t) G P := fun σ H1 H D e E f => by
  refine hl σ H1 H e E _ fun H2 H' v s dv => ?_
  cases dv with
  | @lst a xs _ ha hA =>
    refine ⟨a, rfl, ⟨xs, SqL.of (s.s2 _ _ ha)⟩, for_list (K := S.K) (a := a) (xs := xs) (fun i σ3 H3 => ∃ H4 G3, Step H2 H' H4 H3 ∧ EnvD S H4 σ3 G3 ∧ I i G3) ⟨H2, G, Step.refl s.s2, E.mono s.s1, h0⟩ (fun i σ3 H3 _ ⟨H4, G3, s3, _, _⟩ => SqL.of (s3.s2 _ _ (s3.s1 _ _ ha))) ?_ ?_⟩
    · rintro i x σ3 H3 hx ⟨H4, G3, s3, E3, i3⟩
      obtain ⟨d, hd', hv⟩ := hA.getV hx
      obtain ⟨G', tg, rb⟩ := hs i d G3 hd' i3
      refine tg x σ3 H4 H3 s3.s2 E3 (hv.mono s3.s1) _ fun σ4 E4 => ?_
      exact rb σ4 H4 H3 _ s3.s2 E4 (Fin.turns (s.trans s3) f fun G5 i5 σ5 H5 H5' s5 E5 => ⟨H5, G5, s3.trans s5, E5, i5⟩)
    · rintro σ3 H3 ⟨H4, G3, s3, E3, i3⟩
      rw [hA.length] at i3
      exact f.nx G3 (hd G3 i3) σ3 H4 H3 (s.trans s3) E3
theorem rd_for_tup {g : TG} {ds : List Dat} (hl : EvD S te G (.tup ds)) (I : Nat → Gam → Prop) (h0 : I 0 G)
    (hs : ∀ (k : Nat) (d : Dat) (G : Gam), ds[k]? = some d → I k G → ∃ G', TgD S g d G G' ∧ RunD S t G' (Turns (I (k + 1)) P)) (hd : ∀ G, I ds.length G → P (.nx G)) : RunD S (tFor (iTup S.K te) g t) G P := fun σ H1 H D e E f => by
  refine hl σ H1 H e E _ fun H2 H' v s dv => ?_
  cases dv with
  | @tup a xs _ ha hA =>
    refine ⟨a, rfl, ⟨xs, sqT_mono s.s2 ha⟩, for_tup (K := S.K) (a := a) (xs := xs) (fun i σ3 H3 => ∃ H4 G3, Step H2 H' H4 H3 ∧ EnvD S H4 σ3 G3 ∧ I i G3) ⟨H2, G, Step.refl s.s2, E.mono s.s1, h0⟩ (fun i σ3 H3 _ ⟨H4, G3, s3, _, _⟩ => sqT_mono s3.s2 (sqT_mono s3.s1 ha)) ?_ ?_⟩
    · rintro i x σ3 H3 hx ⟨H4, G3, s3, E3, i3⟩
      obtain ⟨d, hd', hv⟩ := hA.getV hx
      obtain ⟨G', tg, rb⟩ := hs i d G3 hd' i3
      refine tg x σ3 H4 H3 s3.s2 E3 (hv.mono s3.s1) _ fun σ4 E4 => ?_
      exact rb σ4 H4 H3 _ s3.s2 E4 (Fin.turns (s.trans s3) f fun G5 i5 σ5 H5 H5' s5 E5 => ⟨H5, G5, s3.trans s5, E5, i5⟩)
    · rintro σ3 H3 ⟨H4, G3, s3, E3, i3⟩
      rw [hA.length] at i3
      exact f.nx G3 (hd G3 i3) σ3 H4 H3 (s.trans s3) E3
theorem rd_for_range {g : TG} {n : Int} (hl : EvD S te G (.int n)) (hn : n < 2 ^ 62) (hn0 : -(2 ^ 62) ≤ n) (I : Nat → Gam → Prop) (h0 : I 0 G)
    (hs : ∀ (k : Nat) G, k < n.toNat → I k G → ∃ G', TgD S g (.int k) G G' ∧ RunD S t G' (Turns (I (k + 1)) P)) (hd : ∀ G, I n.toNat G → P (.nx G)) : RunD S (tFor (iRng1 (tCons te tNil)) g t) G P := fun σ H1 H D e E f => by
  refine hl σ H1 H e E _ fun H2 H' v s dv => ?_
  cases dv
  refine ⟨n, rfl, hn0, hn, for_range (lo := 0) (n := n.toNat) (fun i σ3 H3 => ∃ H4 G3, Step H2 H' H4 H3 ∧ EnvD S H4 σ3 G3 ∧ I i G3) ⟨H2, G, Step.refl s.s2, E.mono s.s1, h0⟩ ?_ ?_⟩
  · rintro i σ3 H3 hx ⟨H4, G3, s3, E3, i3⟩
    obtain ⟨G', tg, rb⟩ := hs i G3 hx i3
    rw [show (0 : Int) + (i : Int) = (i : Int) from Int.zero_add _]
    refine tg (.int i) σ3 H4 H3 s3.s2 E3 (.int _) _ fun σ4 E4 => ?_
    exact rb σ4 H4 H3 _ s3.s2 E4 (Fin.turns (s.trans s3) f fun G5 i5 σ5 H5 H5' s5 E5 => ⟨H5, G5, s3.trans s5, E5, i5⟩)
  · rintro σ3 H3 ⟨H4, G3, s3, E3, i3⟩
    exact f.nx G3 (hd G3 i3) σ3 H4 H3 (s.trans s3) E3
/-! comprehensions -/
theorem wipe_set {σ : L2.St} {i : Nat} {v : Option V} : L2.wipe (σ.set i v) [i] = L2.wipe σ [i] := by
  show (σ.set i v).set i none = σ.set i none
  rw [List.set_set]
/-- the new list at D within: what it holds is still apart -/
structure LcAt (S : Sys) (D : Addr) (H2 : Hp) (rs : List Dat) (H : Hp) : Prop where
  ex : ∃ vs, H D = some (.lst vs) ∧ DtA S H2 vs rs
theorem ed_lc_list {i : Nat} {tl te : TE} {ds rs : List Dat} (hl : EvD S tl G (.lst ds)) (hr : rs.length = ds.length) (hz : ds.length ≤ 1000)
    (hs : ∀ (k : Nat) (d r : Dat), ds[k]? = some d → rs[k]? = some r → EvD S te ((G.set i none).set i (some d)) r) : EvD S (tLc (iList S.K tl) (gName i) tYes te [i]) G (.lst rs) := fun σ H1 H e E Q q => by
  refine hl σ H1 H e E _ fun H2 H' v s dv => ?_
  cases dv with
  | @lst a xs _ ha hA =>
    refine ⟨a, rfl, ⟨xs, SqL.of (s.s2 _ _ ha)⟩, fun D hD => ?_⟩
    have hD2 : H2 D = none := s.s2.free hD
    refine lc_list (K := S.K) (a := a) (xs := xs) (fun k H3 => ∃ H4 vs, Same H2 H4 ∧ Same H4 H3 ∧ H4 D = none ∧ Same H' H3 ∧ (∀ b o, H4 b = some o → H2 b = some o ∨ H' b = none) ∧ H3 D = some (.lst vs) ∧ DtA S H4 vs (rs.take k))
      ⟨H2, [], Same.refl _, same_mut s.s2 hD2, hD2, same_new hD, fun b o h => .inl h, upd_same, .nil⟩ (fun k H3 _ ⟨H4, vs, a1, a2, _⟩ => SqL.of (a2 _ _ (a1 _ _ ha))) ?_ ?_
    · rintro k x H3 hx ⟨H4, vs, a1, a2, a3, a4, a5, a6, a7⟩
      obtain ⟨d, hd, hv⟩ := hA.getV hx
      have hk : k < rs.length := by
        rw [hr]
        exact (List.getElem?_eq_some_iff.mp hd).1
      refine ⟨wipe_set.trans wipe_set, ?_⟩
      have ev := hs k d rs[k] hd (List.getElem?_eq_getElem hk)
      unfold tYes
      dsimp only
      rw [if_pos rfl]
      refine ev _ H4 H3 a2 (((E.mono s.s1).mono a1).wipe.set (hv.mono a1)) _ fun H5 H5' y s5 dy => ?_
      have hD5 : H5 D = none := by
        cases z : H5 D with
        | none => rfl
        | some o =>
          rcases s5.fr D o z with z2 | z2
          · rw [a3] at z2
            cases z2
          · rw [a6] at z2
            cases z2
      have lv : vs.length = k := by
        rw [a7.length, List.length_take]
        omega
      refine ⟨vs, s5.s3 _ _ a6, small1000 (by omega), H5, vs ++ [y], a1.trans s5.s1, same_mut s5.s2 hD5, hD5, ?_, fun b o h => ?_, upd_same, ?_⟩
      · intro b o hb
        by_cases z : b = D
        · subst z
          rw [hb] at hD
          cases hD
        · rw [upd_ne z]
          exact s5.s3 _ _ (a4 _ _ hb)
      · rcases s5.fr b o h with z | z
        · exact a5 b o z
        · exact .inr (a4.free z)
      · rw [List.take_succ, List.getElem?_eq_getElem hk]
        exact (a7.mono s5.s1).snoc dy
    · rintro H3 ⟨H4, vs, a1, a2, a3, a4, a5, a6, a7⟩
      rw [hA.length, ← hr, List.take_length] at a7
      refine q (upd H4 D (.lst vs)) H3 (.ref D) ⟨s.s1.trans (a1.trans (same_new a3)), fun b o h => ?_, s.s3.trans a4, fun b o h => ?_⟩ (.lst upd_same (a7.mono (same_new a3)))
      · by_cases z : b = D
        · subst z
          rw [upd_same] at h
          rw [← h]
          exact a6
        · rw [upd_ne z] at h
          exact a2 _ _ h
      · by_cases z : b = D
        · subst z
          exact .inr (s.s3.free hD)
        · rw [upd_ne z] at h
          rcases a5 b o h with y | y
          · exact s.fr b o y
          · exact .inr (s.s3.free y)
theorem ed_lc_range {i : Nat} {tn te : TE} {n : Int} {rs : List Dat} (hl : EvD S tn G (.int n)) (hn0 : 0 ≤ n) (hr : rs.length = n.toNat) (hz : n ≤ 1000)
    (hs : ∀ (k : Nat) (r : Dat), rs[k]? = some r → EvD S te ((G.set i none).set i (some (.int k))) r) : EvD S (tLc (iRng1 (tCons tn tNil)) (gName i) tYes te [i]) G (.lst rs) := fun σ H1 H e E Q q => by
  refine hl σ H1 H e E _ fun H2 H' v s dv => ?_
  cases dv
  refine ⟨n, rfl, by omega, by omega, fun D hD => ?_⟩
  have hD2 : H2 D = none := s.s2.free hD
  refine lc_range (lo := 0) (n := n.toNat) (fun k H3 => ∃ H4 vs, Same H2 H4 ∧ Same H4 H3 ∧ H4 D = none ∧ Same H' H3 ∧ (∀ b o, H4 b = some o → H2 b = some o ∨ H' b = none) ∧ H3 D = some (.lst vs) ∧ DtA S H4 vs (rs.take k))
    ⟨H2, [], Same.refl _, same_mut s.s2 hD2, hD2, same_new hD, fun b o h => .inl h, upd_same, .nil⟩ ?_ ?_
  · rintro k H3 hx ⟨H4, vs, a1, a2, a3, a4, a5, a6, a7⟩
    have hk : k < rs.length := by rw [hr]; exact hx
    refine ⟨wipe_set.trans wipe_set, ?_⟩
    have ev := hs k rs[k] (List.getElem?_eq_getElem hk)
    rw [show (0 : Int) + (k : Int) = (k : Int) from Int.zero_add _]
    unfold tYes
    dsimp only
    rw [if_pos rfl]
    refine ev _ H4 H3 a2 (((E.mono s.s1).mono a1).wipe.set (.int _)) _ fun H5 H5' y s5 dy => ?_
    have hD5 : H5 D = none := by
      cases z : H5 D with
      | none => rfl
      | some o =>
        rcases s5.fr D o z with z2 | z2
        · rw [a3] at z2
          cases z2
        · rw [a6] at z2
          cases z2
    have lv : vs.length = k := by
      rw [a7.length, List.length_take]
      omega
    refine ⟨vs, s5.s3 _ _ a6, small1000 (by omega), H5, vs ++ [y], a1.trans s5.s1, same_mut s5.s2 hD5, hD5, ?_, fun b o h => ?_, upd_same, ?_⟩
    · intro b o hb
      by_cases z : b = D
      · subst z
        rw [hb] at hD
        cases hD
      · rw [upd_ne z]
        exact s5.s3 _ _ (a4 _ _ hb)
    · rcases s5.fr b o h with z | z
      · exact a5 b o z
      · exact .inr (a4.free z)
    · rw [List.take_succ, List.getElem?_eq_getElem hk]
      exact (a7.mono s5.s1).snoc dy
  · rintro H3 ⟨H4, vs, a1, a2, a3, a4, a5, a6, a7⟩
    rw [← hr, List.take_length] at a7
    refine q (upd H4 D (.lst vs)) H3 (.ref D) ⟨s.s1.trans (a1.trans (same_new a3)), fun b o h => ?_, s.s3.trans a4, fun b o h => ?_⟩ (.lst upd_same (a7.mono (same_new a3)))
    · by_cases z : b = D
      · subst z
        rw [upd_same] at h
        rw [← h]
        exact a6
      · rw [upd_ne z] at h
        exact a2 _ _ h
    · by_cases z : b = D
      · subst z
        exact .inr (s.s3.free hD)
      · rw [upd_ne z] at h
        rcases a5 b o h with y | y
        · exact s.fr b o y
        · exact .inr (s.s3.free y)
/-! calls -/
/-- what a def is worth that reads and makes new things: R of its arguments and its answer -/
def spF (S : Sys) (R : List Dat → Dat → Prop) : Sp := fun vs H Q _ => ∃ H1 ds d, Same H1 H ∧ DtA S H1 vs ds ∧ R ds d ∧ ∀ H2 H' v, Step H1 H H2 H' → Dt S H2 v d → Q v H'
theorem ed_call {R : List Dat → Dat → Prop} {E0 : XK} {t : TA} {ds : List Dat} (h : EvA S t G ds) (hr : R ds d) : EvD S (tCall (spF S R) [] E0 t) G d := fun σ H1 H e E Q q =>
  h σ H1 H e E _ fun H2 H' vs s dv => ⟨H2, ds, d, s.s2, by rw [List.append_nil]; exact dv, hr, fun H3 H'' v s2 d2 => q H3 H'' v (s.trans s2) d2⟩
theorem fflds_no {s k j : Addr} {m : Str} (h1 : ¬ m = "spots") (h2 : ¬ m = "kept") (h3 : ¬ m = "joints") : (fflds s k j).lookup m = none := by
  have e1 : (m == ("spots" : Str)) = false := by simpa using h1
  have e2 : (m == ("kept" : Str)) = false := by simpa using h2
  have e3 : (m == ("joints" : Str)) = false := by simpa using h3
  simp [fflds, List.lookup, e1, e2, e3]
theorem ed_meth {R : List Dat → Dat → Prop} {E0 : XK} {t : TA} {ds : List Dat} {F : Frm} {m : Str} (ho : EvD S te G (.frm F)) (h : EvA S t G ds) (hr : R (.frm F :: ds) d)
    (h1 : ¬ m = "spots" := by decide +kernel) (h2 : ¬ m = "kept" := by decide +kernel) (h3 : ¬ m = "joints" := by decide +kernel) : EvD S (tMeth S.CF m (spF S R) [] E0 te t) G d := fun σ H1 H e E Q q => by
  refine ho σ H1 H e E _ fun H2 H' v s dv => ?_
  cases dv with
  | @frm a dx sp k j F _ _ _ q0 q1 q2 q3 a1 a2 a3 =>
    refine ⟨a, dx, _, rfl, s.s2 _ _ q0, fflds_no h1 h2 h3, ?_⟩
    refine h σ H2 H' s.s2 (E.mono s.s1) _ fun H3 H'' vs s2 dvs => ?_
    exact ⟨H3, .frm F :: ds, d, s2.s2, by rw [List.append_nil]; exact .cons ((Dt.frm q0 q1 q2 q3 a1 a2 a3).mono s2.s1) dvs, hr, fun H4 H4' w s3 d3 => q H4 H4' w ((s.trans s2).trans s3) d3⟩
/-- the slots at a def's start -/
def start0 (N : List Str) (ds : List Dat) : Gam := ds.map some ++ List.replicate (N.length - ds.length) none
theorem env_start {N : List Str} {H : Hp} {vs : List V} {ds : List Dat} (h : DtA S H vs ds) : EnvD S H (L2.start N vs) (start0 N ds) := by
  refine ⟨by simp [L2.start, start0, h.length], fun i d e => ?_⟩
  unfold start0 at e
  by_cases hi : i < ds.length
  · rw [List.getElem?_append_left (by simpa using hi), List.getElem?_map] at e
    cases q : ds[i]? with
    | none => rw [q] at e; cases e
    | some d' =>
      rw [q] at e
      cases e
      obtain ⟨u, h1, h2⟩ := h.get q
      refine ⟨u, ?_, h2⟩
      unfold L2.start
      rw [List.getElem?_append_left (by rw [List.length_map, h.length]; exact hi), List.getElem?_map, h1]
      rfl
  · rw [List.getElem?_append_right (by simpa using hi)] at e
    rw [List.getElem?_replicate] at e
    split at e <;> cases e
section
variable {Pr : Program} {w : World} {mg : Str → Option Value} {base : Heap} {x qual : Str} {params : Arguments} {body : List Stmt} {scope : Scope} {dvs : List V} {kws : List (Str × V)} {f : Addr} {fd : FuncData}
/-- THE RULE for such a def -/
theorem pure_ok {CX : CXT} {N ps : List Str} {k : Nat} {R : List Dat → Dat → Prop} (F : FunD S.K x qual params body scope dvs kws f fd) (sc : FnScope N ps scope) (len : ∀ ds d, R ds d → ds.length = ps.length)
    (hbody : ∀ (cdv : Value) (A : Around) (outer : List Env) (s : Shared) (H : Hp) (E : XK), Room k (A.deeper (envOfC qual scope s.heap.objs.size f cdv)) →
      ∃ t, PSs (cxOf CX Pr w S.K mg base N qual scope f cdv A outer s H E).nox body t ∧ ∀ ds d, R ds d → RunD S t (start0 N ds) (fun o => o = .rt d ∨ (d = .non ∧ ∃ G, o = .nx G))) : FnOk Pr w S.K mg base CX (k + 1) f fd ps (spF S R) := by
  refine FunD.ok F sc (fun vs H Q E h => ?_) (fun cdv A outer s H vs Q E hr h => ?_)
  · obtain ⟨H1, ds, d, _, dv, r, _⟩ := h
    rw [dv.length]
    exact len ds d r
  · obtain ⟨H1, ds, d, e, dv, r, q⟩ := h
    obtain ⟨t, ht, hR⟩ := hbody cdv A outer s H E hr
    refine ⟨t, ht.nox, hR ds d r _ H1 H _ e (env_start dv) ⟨fun G p σ H2 H' st E' => ?_, fun d' p H2 H' v st dv' => ?_, fun G p => ?_, fun G p => ?_⟩⟩
    · rcases p with p | ⟨p, _⟩
      · cases p
      · subst p
        exact q H2 H' .non st .non
    · rcases p with p | ⟨_, _, p⟩
      · cases p
        exact q H2 H' v st dv'
      · cases p
    · rcases p with p | ⟨_, _, p⟩ <;> cases p
    · rcases p with p | ⟨_, _, p⟩ <;> cases p
end
end
end Ty
set_option Elab.async false
set_option linter.all false
set_option maxRecDepth 100000
set_option maxHeartbeats 4000000
/-! Rules that the hand layer lacks: // of any size, text * int, list(d.keys()), C() without an __init__, YardError.__init__(self, ..), isinstance of a caught error with fields. -/
namespace Ty
open PySem PySem.Spec PyProof.Rows L2
/-! ### // -/
structure SeeX (X : Cx) : Prop where
  st : ∃ e l, X.stack = e :: l ∧ e.scope.isGenerator = false ∧ e.scope.isCoroutine = false ∧ e.builtins = builtinsNs ∧ e.globals = mainGlobals
  ns : X.base.NoSeer
  tr : X.prog.given.tree = none
  dp : X.A.depth + 100 < recursionLimit
section
variable {X : Cx}
theorem op_divX (Z : SeeX X) : OpR X (binaryOp .FloorDiv) (rI (fun i j => j ≠ 0 ∧ j ∣ i) fun i j => .int (i / j)) := by
  intro pins s σ H x y v u Q I rx ry h
  obtain ⟨i, j, rfl, rfl, ⟨hj, hd⟩, q⟩ := h
  obtain ⟨t, rfl⟩ := rx
  obtain ⟨t', rfl⟩ := ry
  refine floordiv_int hj ?_ (.inr ?_)
  · rw [Int.fdiv_eq_ediv_of_dvd hd]
    exact ⟨.int _, H, I.tok _, ⟨_, rfl⟩, q⟩
  · obtain ⟨e, l, h1, h2, h3, h4, h5⟩ := Z.st
    exact PySem.PylongRoom.of I.nolimit Z.dp (PySem.SeerAt.of (Z.ns.keeps I.bk) Z.tr (by rw [I.ok.frames, h1]) h2 h3 h4 h5)
/-! ### text * int -/
def repS (x : Str) (n : Nat) : Str := ⟨(List.replicate n x.cps).foldl (· ++ ·) #[]⟩
theorem repS_size (c : Array Nat) : ∀ (n : Nat) (acc : Array Nat), ((List.replicate n c).foldl (· ++ ·) acc).size = acc.size + c.size * n
  | 0, acc => by simp
  | n + 1, acc => by
    rw [List.replicate_succ, List.foldl_cons, repS_size c n (acc ++ c), Array.size_append, Nat.mul_succ]
    omega
theorem repS_length (x : Str) (n : Nat) : (repS x n).length = x.length * n := by
  show ((List.replicate n x.cps).foldl (· ++ ·) #[]).size = x.cps.size * n
  rw [repS_size]
  simp
theorem op_mulS : OpR X (binaryOp .Mult) (fun x y H Q => ∃ (z : Str) (n : Int), x = .str z ∧ y = .int n ∧ 0 ≤ n ∧ n ≤ 1000 ∧ z.length ≤ 1000 ∧ Q (.str (repS z n.toNat)) H) := by
  intro pins s σ H x y v u Q I rx ry h
  obtain ⟨z, n, rfl, rfl, h0, h1, h2, q⟩ := h
  obtain ⟨t, rfl⟩ := rx
  obtain ⟨t', rfl⟩ := ry
  have e0 : n = 0 → (repS z n.toNat) = Str.empty := fun e => by subst e; rfl
  refine PySem.P.mul_str (by simp; omega) (fun _ _ => ?_) (fun _ _ => ?_) ?_
  · rename_i hn _
    have h3 : (1000 : Int) ≤ (2 ^ 63 - 1) / n := by
      refine Int.le_ediv_of_mul_le (by omega) ?_
      omega
    have : (z.length : Int) ≤ 1000 := by omega
    omega
  · unfold Builtin.Str.tooLong
    have h4 : z.length * n.toNat ≤ 1000 * 1000 := Nat.mul_le_mul h2 (by omega)
    have h5 : (1000 * 1000 : Nat) < sizeLine := by rw [sizeLine_eq]; decide
    simp
    omega
  · by_cases hn : n < 1
    · rw [if_pos hn]
      have e : n = 0 := by omega
      rw [e0 e] at q
      exact ⟨by rw [sizeLine_eq]; decide, ⟨.str _, H, I.tok _, ⟨_, rfl⟩, q⟩⟩
    · rw [if_neg hn]
      by_cases hb : (n == 1 || z.length == 0) = true
      · rw [if_pos hb]
        have e : repS z n.toNat = z := by
          rcases Bool.or_eq_true_iff.mp hb with e | e
          · have e1 : n = 1 := eq_of_beq e
            subst e1
            show (⟨#[] ++ z.cps⟩ : Str) = z
            simp
          · have e1 : z.cps = #[] := by
              have : z.length = 0 := eq_of_beq e
              exact Array.eq_empty_of_size_eq_zero this
            unfold repS
            obtain ⟨c⟩ := z
            dsimp only at e1
            subst e1
            congr 1
            have key : ∀ k : Nat, (List.replicate k (#[] : Array Nat)).foldl (· ++ ·) #[] = #[] := fun k => by
              induction k with
              | zero => rfl
              | succ k ih => rw [List.replicate_succ, List.foldl_cons]; simpa using ih
            exact key _
        rw [e] at q
        exact ⟨.str _, H, I, ⟨_, rfl⟩, q⟩
      · rw [if_neg hb]
        refine ⟨?_, ⟨.str _, H, I.tok _, ⟨_, rfl⟩, q⟩⟩
        have h4 : z.length * n.toNat ≤ 1000 * 1000 := Nat.mul_le_mul h2 (by omega)
        have h5 : (1000 * 1000 : Nat) < sizeLine := by rw [sizeLine_eq]; decide
        have h6 := repS_length z n.toNat
        unfold repS at h6
        omega
end
/-! ### list(d.keys()) -/
def tListKeys (te : TE) : TE := fun σ H Q => te σ H fun x H1 => ∃ (d : Addr) (kvs : List (Key × V)), x = .ref d ∧ H1 d = some (.dK kvs) ∧ ∀ q, H1 q = none → Q (.ref q) (upd H1 q (.lst (kvs.map fun kv => kV kv.1)))
section
variable {X : Cx} {e : Expr} {te : TE} {p apos cpos pos : Pos}
theorem pe_listKeys (hc : X.calm = true) (he : PE X e te) (hg : Gl X "list") (hm : X.mg "list" = none) (hv : bootBuiltins "list" = some (.type "list")) (hbase : attributeBase e "keys" X.env (eval e X.env) = eval e X.env := by rfl) (hline : (apos.endLine == cpos.line) = true := by rfl)
    (hs : starEach [.Call (.Attribute e "keys" apos) [] [] cpos] X.env = (false, eval (.Call (.Attribute e "keys" apos) [] [] cpos) X.env) :: starEach [] X.env := by rfl) :
    PE X (.Call (.Name "list" p) [.Call (.Attribute e "keys" apos) [] [] cpos] [] pos) (tListKeys te) := by
  refine ⟨fun pins s σ H Q I hq => ?_⟩
  refine wpAny_Call_Name_kw (ld_blt I hg hm hv ?_)
  refine PyProof.Rows.callWith_type1 ?_ hs rfl
  rw [hs]
  show wpAny _ _ (spliced ((false, eval (.Call (.Attribute e "keys" apos) [] [] cpos) X.env) :: backTo pos (starEach [] X.env))) _ _ s
  refine Calls.spliced_cons ?_
  refine wpAny_Call_method (T := "dict") (id := "dict.keys") hbase rfl hline F.plainAttrs_dict F.slot_dict_keys F.type_dict_keys (thn (he.run pins s σ H _ I hq) fun u s1 ⟨x, H1, I1, rx, d, kvs, ex, hd, q⟩ => ?_)
  subst ex
  obtain rfl : u = Value.ref d := rx
  obtain ⟨hz, hs0, vs, kv, hdo⟩ := I1.hok d _ hd
  obtain ⟨ep, hat⟩ := hdo.dictAt
  have lk : kvs.length = vs.length := Paired.length kv
  have I2 : Inv X pins σ H1 { s1 with heap := s1.heap.push { cls := .type "dict_keys", data := .fields #[.ref d] } } := I1.kept (t' := s1.toks) fun b ob q => Heap.get?_push_of_some _ q
  refine ⟨hdo.typeIs, hdo.mapOf.noDict, ?_⟩
  show wpAny _ _ (callWith cpos (.builtin "dict.keys") [.ref d] [] []) _ X.xe s1
  refine method_meetsIn F.slot_dict_keys F.entry_dict_keys rfl (PySem.evalArgs_none ⟨rfl, hdo.typeIs, F.args_dict_keys_1 _, _, PySem.W.kdl_meets_keys (mixKind X.prog X.w) d hs0, ⟨vs, hdo⟩, ?_⟩)
  refine Calls.spliced_nil ?_
  refine PySem.W.kdl_call (PySem.W.kdl_keys (knd := mixKind X.prog X.w) (kvs := vs) (ep := ep)) (I1.ok.hd hc) ⟨⟨_, Heap.get?_push_size _ rfl, rfl, rfl⟩, hat.push _⟩ (by rw [← lk]; exact hz) fun h' tk acc' c' hkeep hS hacc => ?_
  refine ⟨.ref (s1.heap.push { cls := .type "dict_keys", data := .fields #[.ref d] }).objs.size, upd H1 (s1.heap.push { cls := .type "dict_keys", data := .fields #[.ref d] }).objs.size (.lst (kvs.map fun kv => kV kv.1)),
    I2.laid (t' := tk) hkeep (Nat.le_refl _) (show ObjOk X.prog X.w _ _ _ (.lst (kvs.map fun kv => kV kv.1)) from ⟨?_, acc'.toList, c', ?_, ?_⟩), rfl, q _ (I2.hok.fresh (Nat.le_refl _))⟩
  · rw [List.length_map]; exact hz
  · have el : acc'.toList.length = acc'.size := by simp
    refine vals_of_at (by rw [List.length_map, el, hacc.1, lk]) fun j x w h1 h2 => ?_
    obtain ⟨k, y, hky, hi⟩ := hacc.2 j w (by rw [← Array.getElem?_toList]; exact h2)
    have e1 : (kvs.map (·.1))[j]? = some k := by
      rw [KV.keys kv, List.getElem?_map, hky] <;> rfl
    have e2 : (kvs.map fun kv => kV kv.1)[j]? = some (kV k) := by
      have e3 : (kvs.map fun kv => kV kv.1) = (kvs.map (·.1)).map kV := by rw [List.map_map] <;> rfl
      rw [e3, List.getElem?_map, e1] <;> rfl
    rw [e2] at h1
    cases h1
    exact keyIs_rel hi
  · rw [Array.toArray_toList]; exact hS
end
/-! ### C() where C has no __init__ of its own -/
structure MkN (K : PySem.W.Frag) (C : Addr) : Prop where
  makes : PySem.W.makesIn K C = true
  init : PySem.W.findIn K (.ref C) "__init__" = some (some (.builtin "object.__init__"))
  kp : PySem.W.keepIn K (.ref C) = true
def tMakeN (C : Addr) : TE := fun _ H Q => ∀ x dx, H x = none → H dx = none → dx ≠ x → Q (.ref x) (upd (upd H dx (.own x)) x (.ins C dx []))
section
variable {X : Cx} {C : Addr} {x : Str} {p pos : Pos}
theorem pe_makeN (M : MkN X.K C) (hg : Gl X x) (hm : X.mg x = some (.ref C)) (hdb : (x == ("__debug__" : Str)) = false := by decide) : PE X (.Call (.Name x p) [] [] pos) (tMakeN C) := by
  refine ⟨fun pins s σ H Q I h => ?_⟩
  refine wpAny_Call_Name_kw (ld_glob I hg hm ?_ hdb)
  refine PySem.W.callWith_K0 I.kIn M.kp ?_
  have q := h (s.heap.objs.size + 1) s.heap.objs.size (I.hok.fresh (Nat.le_succ _)) (I.hok.fresh (Nat.le_refl _)) (Nat.ne_of_lt (Nat.lt_succ_self _))
  have I2 := Inv.made (C := C) I
  have Y := PySem.W.makes_of (M := model X.prog X.w) I.kIn M.makes
  refine wpAny_call (make_map0 I.kIn M.makes M.init (fun self => PySem.W.Looks.of_pure (PySem.W.oi_bind self)) ?_)
  have e2 : ((s.heap.push PySem.W.emptyDict).push (PySem.W.instObj C s.heap.objs.size)).get? (s.heap.objs.size + 1) = some (PySem.W.instObj C s.heap.objs.size) := by
    have := Heap.get?_push_size (s.heap.push PySem.W.emptyDict) (o := PySem.W.instObj C s.heap.objs.size) rfl
    rwa [Heap.size_push] at this
  have t1 : PySem.W.Looks (model X.prog X.w) ((s.heap.push PySem.W.emptyDict).push (PySem.W.instObj C s.heap.objs.size)) (typeOf (.ref (s.heap.objs.size + 1))) (.ref C) := (PySem.W.Looks.ld e2).andThen .now
  have t2 : PySem.W.Looks (model X.prog X.w) ((s.heap.push PySem.W.emptyDict).push (PySem.W.instObj C s.heap.objs.size)) (isInstance (.ref (s.heap.objs.size + 1)) (.type "object")) true := t1.andThen (Y.top.keeps fun b o e => Heap.get?_push_of_some _ (Heap.get?_push_of_some _ e))
  refine codeAny_call_builtin PySem.W.oi_plain PySem.W.entry_oi (@PySem.W.check_slot (model X.prog X.w) _ _ _ "object.__init__" "object" "__init__" (.ref (s.heap.objs.size + 1)) [] [] _ PySem.W.oi_kind PySem.W.oi_split t2 (PySem.W.oi_args (.ref (s.heap.objs.size + 1))) ?_)
  rw [PySem.W.oi_run]
  exact wpAny_pure ⟨rfl, ⟨V.ref (s.heap.objs.size + 1), _, I2, rfl, q⟩⟩
end
/-! ### Y.__init__(self, ..), Y an own exception class over ValueError that has none of its own -/
structure YeC (K : PySem.W.Frag) (Y : Addr) : Prop where
  rd : PySem.W.readsIn K Y (.type "type") = true
  ga : PySem.W.specialIn K (.ref Y) "__getattribute__" = some (some (.builtin "type.__getattribute__"))
  at_ : PySem.W.findCls K (.ref Y) (.type "type") "__init__" = some (.val (.builtin "ValueError.__init__"))
section
variable {X : Cx} {Y : Addr} {e : Expr} {es : List Expr} {ta : TA} {p1 p2 pos : Pos} {yn : Str}
theorem pe_yeinit {pl : Sem Bool} (T : YeC X.K Y) (hg : Gl X yn) (hm : X.mg yn = some (.ref Y)) (ha : PA X (e :: es) ta)
    (hc : eval (.Call (.Attribute (.Name yn p1) "__init__" p2) (e :: es) [] pos) X.env = (do
      let ov ← eval (.Name yn p1) X.env
      standAt p2.atName
      let (f, first) ← holding [ov] (getMethod ov "__init__" pl)
      callWith pos f first (backTo pos (starEach (e :: es) X.env)) (backToKw pos (keywordEach [] X.env))) := by rfl)
    (hdb : (yn == ("__debug__" : Str)) = false := by decide)
    (he : starEach (e :: es) X.env = (false, eval e X.env) :: starEach es X.env := by rfl) (hpl : (backTo pos (starEach es X.env)).any (·.1) = false := by rfl) :
    PE X (.Call (.Attribute (.Name yn p1) "__init__" p2) (e :: es) [] pos) (tVeI X.K ta) := by
  refine ⟨fun pins s σ H Q I h => ?_⟩
  refine PySem.W.methodCall_KW (ld_glob I hg hm ?_ hdb) hc
  refine PySem.W.method_cls I.kIn T.ga (PySem.W.cls_value I.kIn T.rd T.at_ (by decide +kernel) ?_)
  show wpAny _ _ (callWith pos (Value.builtin "ValueError.__init__") [] (backTo pos (starEach (e :: es) X.env)) []) _ _ _
  refine PyProof.Rows.callWith_method1 (thn (ha.run pos pins _ σ H _ (I.tok _) h) fun us s1 ⟨vs, H1, I1, r1, a, C, ws, ev, hl, T, ea, q⟩ => ?_) he hpl
  subst ev
  cases r1 with
  | @cons _ u0 _ ur ra rw' =>
    obtain rfl : u0 = Value.ref a := ra
    have hlen : ur.length ≤ sizeLine := by
      rw [← Paired.length rw', sizeLine_eq]
      omega
    exact oinit_ok T I1 ea hlen fun s' J => ⟨.non, H1, J, rfl, q⟩
end
/-! ### rules with the written part named (for blocks) -/
section
variable {X : Cx}
theorem ix_listK (K : PySem.W.Frag) (h : X.K = K := by rfl) : IxR X (rIxL K) := h ▸ ix_list
theorem ix_tupK (K : PySem.W.Frag) (h : X.K = K := by rfl) : IxR X (rIxT K) := h ▸ ix_tup
theorem len_seqK (K : PySem.W.Frag) (h : X.K = K := by rfl) : CallR X (.builtin "len") (fun xs H Q => ∃ p ys, xs = [.ref p] ∧ (SqL K H p ys ∨ SqT K H p ys) ∧ Q (.int ys.length) H) := h ▸ call_len_seq
theorem pi_listK (K : PySem.W.Frag) {tg l : Expr} {tl : TE} (hl : PE X l tl) (h : X.K = K := by rfl) : PI X tg l (iList K tl) := h ▸ pi_list hl
end
end Ty
set_option Elab.async false
set_option linter.all false
set_option maxRecDepth 100000
set_option maxHeartbeats 4000000
/-! The text by places (printed by gentext.py). -/
namespace Ty
open PySem PySem.Spec PyProof.Rows L2
def top (i : Nat) : Stmt := PySem.Challenge.pw_trussyard_k51_a_bar_put.main.body.getD i (.Pass ⟨0, 0, 0, 0⟩)
abbrev s_PinThere_init : Stmt := inClass (top 5) 0
abbrev s_SpotTaken_init : Stmt := inClass (top 6) 0
abbrev s_NoPin_init : Stmt := inClass (top 7) 0
abbrev s_BarThere_init : Stmt := inClass (top 8) 0
abbrev s_NoBar_init : Stmt := inClass (top 9) 0
abbrev s_NoLength_init : Stmt := inClass (top 10) 0
abbrev s_is_whole : Stmt := top 13
abbrev s_shared_part : Stmt := top 14
abbrev s_ratio_of : Stmt := top 15
abbrev s_difference_of : Stmt := top 16
abbrev s_arm_of : Stmt := top 18
abbrev s_turned_about : Stmt := top 21
abbrev s_pairs_of : Stmt := top 22
abbrev s_column_by : Stmt := top 23
abbrev s_way_columns : Stmt := top 24
abbrev s_bar_column : Stmt := top 25
abbrev s_bar_columns : Stmt := top 26
abbrev s_rows_by : Stmt := top 27
abbrev s_pushes_by : Stmt := top 28
abbrev s_motion_by : Stmt := top 29
abbrev s_shared_divisor : Stmt := top 32
abbrev s_lowest_row : Stmt := top 33
abbrev s_joint_row : Stmt := top 34
abbrev s_joint_rows : Stmt := top 35
abbrev s_cleared_row : Stmt := top 36
abbrev s_led_rows : Stmt := top 37
abbrev s_parts_of : Stmt := top 38
abbrev s_solve_rows : Stmt := top 39
abbrev s_column_told : Stmt := top 42
abbrev s_would_put : Stmt := top 43
abbrev s_Hold_ways : Stmt := inClass (top 45) 0
abbrev s_Roller_init : Stmt := inClass (top 46) 0
abbrev s_Roller_ways : Stmt := inClass (top 46) 1
abbrev s_Fixed_ways : Stmt := inClass (top 47) 0
abbrev s_Frame_init : Stmt := inClass (top 51) 0
abbrev s_Frame_pin_at : Stmt := inClass (top 51) 1
abbrev s_Frame_put_pin : Stmt := inClass (top 51) 2
abbrev s_Frame_ask_bar : Stmt := inClass (top 51) 3
abbrev s_Frame_put_bar : Stmt := inClass (top 51) 4
abbrev s_Frame_pins : Stmt := inClass (top 51) 7
abbrev s_Frame_bars : Stmt := inClass (top 51) 8
abbrev s_Frame_place : Stmt := inClass (top 51) 9
abbrev s_Frame_ways : Stmt := inClass (top 51) 10
abbrev s_Frame_ends : Stmt := inClass (top 51) 11
abbrev s_law_cell_at : Stmt := top 53
abbrev s_law_field : Stmt := top 54
abbrev s_law_lowest : Stmt := top 55
abbrev s_law_sum : Stmt := top 56
abbrev s_law_times : Stmt := top 57
abbrev s_law_turned : Stmt := top 58
abbrev s_law_name : Stmt := top 59
abbrev s_law_spot : Stmt := top 60
abbrev s_law_ways : Stmt := top 61
abbrev s_law_pins : Stmt := top 62
abbrev s_law_bars : Stmt := top 63
abbrev s_law_frame : Stmt := top 64
abbrev s_law_arm : Stmt := top 65
abbrev s_law_add : Stmt := top 66
abbrev s_law_forces : Stmt := top 67
abbrev s_law_number : Stmt := top 68
abbrev s_law_are_forces : Stmt := top 69
abbrev s_law_is_motion : Stmt := top 70
abbrev s_law_at_rest : Stmt := top 71
abbrev s_law_dot : Stmt := top 72
abbrev s_law_longer : Stmt := top 73
abbrev s_law_keeps : Stmt := top 74
abbrev s_law_asked : Stmt := top 75
abbrev s_law_new : Stmt := top 76
abbrev s_law_right : Stmt := top 77
abbrev s_law_full : Stmt := top 78
abbrev s_law : Stmt := top 79
theorem sc_PinThere_init : FnScope ["self", "pin"] ["self", "pin"] (defScope s_PinThere_init) := ⟨rfl, rfl, rfl, by decide +kernel, rfl, by decide +kernel, by decide +kernel⟩
theorem sc_SpotTaken_init : FnScope ["self", "pin"] ["self", "pin"] (defScope s_SpotTaken_init) := ⟨rfl, rfl, rfl, by decide +kernel, rfl, by decide +kernel, by decide +kernel⟩
theorem sc_NoPin_init : FnScope ["self", "pin"] ["self", "pin"] (defScope s_NoPin_init) := ⟨rfl, rfl, rfl, by decide +kernel, rfl, by decide +kernel, by decide +kernel⟩
theorem sc_BarThere_init : FnScope ["self", "bar"] ["self", "bar"] (defScope s_BarThere_init) := ⟨rfl, rfl, rfl, by decide +kernel, rfl, by decide +kernel, by decide +kernel⟩
theorem sc_NoBar_init : FnScope ["self", "bar"] ["self", "bar"] (defScope s_NoBar_init) := ⟨rfl, rfl, rfl, by decide +kernel, rfl, by decide +kernel, by decide +kernel⟩
theorem sc_NoLength_init : FnScope ["self", "bar"] ["self", "bar"] (defScope s_NoLength_init) := ⟨rfl, rfl, rfl, by decide +kernel, rfl, by decide +kernel, by decide +kernel⟩
theorem sc_is_whole : FnScope ["thing"] ["thing"] (defScope s_is_whole) := ⟨rfl, rfl, rfl, by decide +kernel, rfl, by decide +kernel, by decide +kernel⟩
theorem sc_shared_part : FnScope ["one", "other"] ["one", "other"] (defScope s_shared_part) := ⟨rfl, rfl, rfl, by decide +kernel, rfl, by decide +kernel, by decide +kernel⟩
theorem sc_ratio_of : FnScope ["top", "bottom", "share"] ["top", "bottom"] (defScope s_ratio_of) := ⟨rfl, rfl, rfl, by decide +kernel, rfl, by decide +kernel, by decide +kernel⟩
theorem sc_difference_of : FnScope ["one", "other"] ["one", "other"] (defScope s_difference_of) := ⟨rfl, rfl, rfl, by decide +kernel, rfl, by decide +kernel, by decide +kernel⟩
theorem sc_arm_of : FnScope ["frame", "bar", "one", "other", "here", "there"] ["frame", "bar"] (defScope s_arm_of) := ⟨rfl, rfl, rfl, by decide +kernel, rfl, by decide +kernel, by decide +kernel⟩
theorem sc_turned_about : FnScope ["one"] ["one"] (defScope s_turned_about) := ⟨rfl, rfl, rfl, by decide +kernel, rfl, by decide +kernel, by decide +kernel⟩
theorem sc_pairs_of : FnScope ["frame", "pairs", "pin"] ["frame"] (defScope s_pairs_of) := ⟨rfl, rfl, rfl, by decide +kernel, rfl, by decide +kernel, by decide +kernel⟩
theorem sc_column_by : FnScope ["pairs", "draws", "drawn", "pin", "forces", "pair"] ["pairs", "draws"] (defScope s_column_by) := ⟨rfl, rfl, rfl, by decide +kernel, rfl, by decide +kernel, by decide +kernel⟩
theorem sc_way_columns : FnScope ["frame", "pairs", "columns", "pin", "way"] ["frame"] (defScope s_way_columns) := ⟨rfl, rfl, rfl, by decide +kernel, rfl, by decide +kernel, by decide +kernel⟩
theorem sc_bar_column : FnScope ["frame", "one", "other", "arm", "back"] ["frame", "one", "other", "arm"] (defScope s_bar_column) := ⟨rfl, rfl, rfl, by decide +kernel, rfl, by decide +kernel, by decide +kernel⟩
theorem sc_bar_columns : FnScope ["frame", "columns", "bar", "one", "other"] ["frame"] (defScope s_bar_columns) := ⟨rfl, rfl, rfl, by decide +kernel, rfl, by decide +kernel, by decide +kernel⟩
theorem sc_rows_by : FnScope ["frame", "columns", "k", "column"] ["frame", "columns"] (defScope s_rows_by) := ⟨rfl, rfl, rfl, by decide +kernel, rfl, by decide +kernel, by decide +kernel⟩
theorem sc_pushes_by : FnScope ["frame", "numbers", "pushes", "at", "pin", "many"] ["frame", "numbers"] (defScope s_pushes_by) := ⟨rfl, rfl, rfl, by decide +kernel, rfl, by decide +kernel, by decide +kernel⟩
theorem sc_motion_by : FnScope ["frame", "numbers", "motion", "at", "pin"] ["frame", "numbers"] (defScope s_motion_by) := ⟨rfl, rfl, rfl, by decide +kernel, rfl, by decide +kernel, by decide +kernel⟩
theorem sc_shared_divisor : FnScope ["numbers", "found", "number", "one"] ["numbers"] (defScope s_shared_divisor) := ⟨rfl, rfl, rfl, by decide +kernel, rfl, by decide +kernel, by decide +kernel⟩
theorem sc_lowest_row : FnScope ["numbers", "share", "number"] ["numbers"] (defScope s_lowest_row) := ⟨rfl, rfl, rfl, by decide +kernel, rfl, by decide +kernel, by decide +kernel⟩
theorem sc_joint_row : FnScope ["row", "due", "at", "many", "bottom", "number", "joint", "k"] ["row", "due", "at", "many"] (defScope s_joint_row) := ⟨rfl, rfl, rfl, by decide +kernel, rfl, by decide +kernel, by decide +kernel⟩
theorem sc_joint_rows : FnScope ["rows", "dues", "k"] ["rows", "dues"] (defScope s_joint_rows) := ⟨rfl, rfl, rfl, by decide +kernel, rfl, by decide +kernel, by decide +kernel⟩
theorem sc_cleared_row : FnScope ["one", "lead", "column", "over", "under", "k"] ["one", "lead", "column"] (defScope s_cleared_row) := ⟨rfl, rfl, rfl, by decide +kernel, rfl, by decide +kernel, by decide +kernel⟩
theorem sc_led_rows : FnScope ["joints", "many", "leads", "rest", "column", "at", "lead", "other", "one"] ["joints", "many"] (defScope s_led_rows) := ⟨rfl, rfl, rfl, by decide +kernel, rfl, by decide +kernel, by decide +kernel⟩
theorem sc_parts_of : FnScope ["numbers", "bottom", "number"] ["numbers", "bottom"] (defScope s_parts_of) := ⟨rfl, rfl, rfl, by decide +kernel, rfl, by decide +kernel, by decide +kernel⟩
theorem sc_solve_rows : FnScope ["rows", "due", "many", "leads", "rest", "joint", "found", "column", "k"] ["rows", "due", "many"] (defScope s_solve_rows) := ⟨rfl, rfl, rfl, by decide +kernel, rfl, by decide +kernel, by decide +kernel⟩
theorem sc_column_told : FnScope ["frame", "columns", "column", "rows", "word", "told", "one"] ["frame", "columns", "column"] (defScope s_column_told) := ⟨rfl, rfl, rfl, by decide +kernel, rfl, by decide +kernel, by decide +kernel⟩
theorem sc_would_put : FnScope ["frame", "name", "one", "other", "here", "there", "arm", "columns", "motion", "numbers", "ways", "pulls", "k", "bar"] ["frame", "name", "one", "other"] (defScope s_would_put) := ⟨rfl, rfl, rfl, by decide +kernel, rfl, by decide +kernel, by decide +kernel⟩
theorem sc_Hold_ways : FnScope ["self"] ["self"] (defScope s_Hold_ways) := ⟨rfl, rfl, rfl, by decide +kernel, rfl, by decide +kernel, by decide +kernel⟩
theorem sc_Roller_init : FnScope ["self", "x", "y"] ["self", "x", "y"] (defScope s_Roller_init) := ⟨rfl, rfl, rfl, by decide +kernel, rfl, by decide +kernel, by decide +kernel⟩
theorem sc_Roller_ways : FnScope ["self"] ["self"] (defScope s_Roller_ways) := ⟨rfl, rfl, rfl, by decide +kernel, rfl, by decide +kernel, by decide +kernel⟩
theorem sc_Fixed_ways : FnScope ["self"] ["self"] (defScope s_Fixed_ways) := ⟨rfl, rfl, rfl, by decide +kernel, rfl, by decide +kernel, by decide +kernel⟩
theorem sc_Frame_init : FnScope ["self"] ["self"] (defScope s_Frame_init) := ⟨rfl, rfl, rfl, by decide +kernel, rfl, by decide +kernel, by decide +kernel⟩
theorem sc_Frame_pin_at : FnScope ["self", "x", "y", "pin", "spot"] ["self", "x", "y"] (defScope s_Frame_pin_at) := ⟨rfl, rfl, rfl, by decide +kernel, rfl, by decide +kernel, by decide +kernel⟩
theorem sc_Frame_put_pin : FnScope ["self", "name", "x", "y", "hold", "there"] ["self", "name", "x", "y", "hold"] (defScope s_Frame_put_pin) := ⟨rfl, rfl, rfl, by decide +kernel, rfl, by decide +kernel, by decide +kernel⟩
theorem sc_Frame_ask_bar : FnScope ["self", "name", "one", "other", "pin"] ["self", "name", "one", "other"] (defScope s_Frame_ask_bar) := ⟨rfl, rfl, rfl, by decide +kernel, rfl, by decide +kernel, by decide +kernel⟩
theorem sc_Frame_put_bar : FnScope ["self", "name", "one", "other"] ["self", "name", "one", "other"] (defScope s_Frame_put_bar) := ⟨rfl, rfl, rfl, by decide +kernel, rfl, by decide +kernel, by decide +kernel⟩
theorem sc_Frame_pins : FnScope ["self"] ["self"] (defScope s_Frame_pins) := ⟨rfl, rfl, rfl, by decide +kernel, rfl, by decide +kernel, by decide +kernel⟩
theorem sc_Frame_bars : FnScope ["self"] ["self"] (defScope s_Frame_bars) := ⟨rfl, rfl, rfl, by decide +kernel, rfl, by decide +kernel, by decide +kernel⟩
theorem sc_Frame_place : FnScope ["self", "pin"] ["self", "pin"] (defScope s_Frame_place) := ⟨rfl, rfl, rfl, by decide +kernel, rfl, by decide +kernel, by decide +kernel⟩
theorem sc_Frame_ways : FnScope ["self", "pin"] ["self", "pin"] (defScope s_Frame_ways) := ⟨rfl, rfl, rfl, by decide +kernel, rfl, by decide +kernel, by decide +kernel⟩
theorem sc_Frame_ends : FnScope ["self", "bar"] ["self", "bar"] (defScope s_Frame_ends) := ⟨rfl, rfl, rfl, by decide +kernel, rfl, by decide +kernel, by decide +kernel⟩
theorem sc_law_cell_at : FnScope ["_law_script", "_law_k", "_law_part"] ["_law_script", "_law_k"] (defScope s_law_cell_at) := ⟨rfl, rfl, rfl, by decide +kernel, rfl, by decide +kernel, by decide +kernel⟩
theorem sc_law_field : FnScope ["_law_cell", "_law_prime", "_law_many"] ["_law_cell", "_law_prime", "_law_many"] (defScope s_law_field) := ⟨rfl, rfl, rfl, by decide +kernel, rfl, by decide +kernel, by decide +kernel⟩
theorem sc_law_lowest : FnScope ["_law_top", "_law_bottom", "_law_one", "_law_other"] ["_law_top", "_law_bottom"] (defScope s_law_lowest) := ⟨rfl, rfl, rfl, by decide +kernel, rfl, by decide +kernel, by decide +kernel⟩
theorem sc_law_sum : FnScope ["_law_one", "_law_other"] ["_law_one", "_law_other"] (defScope s_law_sum) := ⟨rfl, rfl, rfl, by decide +kernel, rfl, by decide +kernel, by decide +kernel⟩
theorem sc_law_times : FnScope ["_law_one", "_law_other"] ["_law_one", "_law_other"] (defScope s_law_times) := ⟨rfl, rfl, rfl, by decide +kernel, rfl, by decide +kernel, by decide +kernel⟩
theorem sc_law_turned : FnScope ["_law_one"] ["_law_one"] (defScope s_law_turned) := ⟨rfl, rfl, rfl, by decide +kernel, rfl, by decide +kernel, by decide +kernel⟩
theorem sc_law_name : FnScope ["_law_cell", "_law_k", "_law_style", "_law_at"] ["_law_cell", "_law_k"] (defScope s_law_name) := ⟨rfl, rfl, rfl, by decide +kernel, rfl, by decide +kernel, by decide +kernel⟩
theorem sc_law_spot : FnScope ["_law_cell", "_law_kind", "_law_x"] ["_law_cell", "_law_kind"] (defScope s_law_spot) := ⟨rfl, rfl, rfl, by decide +kernel, rfl, by decide +kernel, by decide +kernel⟩
theorem sc_law_ways : FnScope ["_law_cell", "_law_kind", "_law_x", "_law_y"] ["_law_cell"] (defScope s_law_ways) := ⟨rfl, rfl, rfl, by decide +kernel, rfl, by decide +kernel, by decide +kernel⟩
theorem sc_law_pins : FnScope ["_law_script", "_law_cell", "_law_many", "_law_kind", "_law_pins_here", "_law_k", "_law_spot_here", "_law_pin"] ["_law_script"] (defScope s_law_pins) := ⟨rfl, rfl, rfl, by decide +kernel, rfl, by decide +kernel, by decide +kernel⟩
theorem sc_law_bars : FnScope ["_law_script", "_law_pins_here", "_law_cell", "_law_many", "_law_bars_here", "_law_k", "_law_one", "_law_step"] ["_law_script", "_law_pins_here"] (defScope s_law_bars) := ⟨rfl, rfl, rfl, by decide +kernel, rfl, by decide +kernel, by decide +kernel⟩
theorem sc_law_frame : FnScope ["_law_pins_here", "_law_bars_here", "_law_frame_here", "_law_name_here", "_law_spot_here", "_law_ways_here", "_law_one", "_law_other"] ["_law_pins_here", "_law_bars_here"] (defScope s_law_frame) := ⟨rfl, rfl, rfl, by decide +kernel, rfl, by decide +kernel, by decide +kernel⟩
theorem sc_law_arm : FnScope ["_law_pins_here", "_law_bar", "_law_axis"] ["_law_pins_here", "_law_bar", "_law_axis"] (defScope s_law_arm) := ⟨rfl, rfl, rfl, by decide +kernel, rfl, by decide +kernel, by decide +kernel⟩
theorem sc_law_add : FnScope ["_law_found", "_law_k", "_law_axis", "_law_draw"] ["_law_found", "_law_k", "_law_axis", "_law_draw"] (defScope s_law_add) := ⟨rfl, rfl, rfl, by decide +kernel, rfl, by decide +kernel, by decide +kernel⟩
theorem sc_law_forces : FnScope ["_law_pins_here", "_law_bars_here", "_law_pulls", "_law_pushes", "_law_found", "_law_k", "_law_axis", "_law_draw", "_law_j", "_law_pin"] ["_law_pins_here", "_law_bars_here", "_law_pulls", "_law_pushes"] (defScope s_law_forces) := ⟨rfl, rfl, rfl, by decide +kernel, rfl, by decide +kernel, by decide +kernel⟩
theorem sc_law_number : FnScope ["_law_x", "_law_part"] ["_law_x"] (defScope s_law_number) := ⟨rfl, rfl, rfl, by decide +kernel, rfl, by decide +kernel, by decide +kernel⟩
theorem sc_law_are_forces : FnScope ["_law_pins_here", "_law_bars_here", "_law_pulls", "_law_pushes", "_law_name_here", "_law_spot_here", "_law_ways_here", "_law_bar", "_law_pin", "_law_one"] ["_law_pins_here", "_law_bars_here", "_law_pulls", "_law_pushes"] (defScope s_law_are_forces) := ⟨rfl, rfl, rfl, by decide +kernel, rfl, by decide +kernel, by decide +kernel⟩
theorem sc_law_is_motion : FnScope ["_law_pins_here", "_law_motion", "_law_name_here", "_law_spot_here", "_law_ways_here", "_law_pin"] ["_law_pins_here", "_law_motion"] (defScope s_law_is_motion) := ⟨rfl, rfl, rfl, by decide +kernel, rfl, by decide +kernel, by decide +kernel⟩
theorem sc_law_at_rest : FnScope ["_law_pins_here", "_law_bars_here", "_law_pulls", "_law_pushes", "_law_load", "_law_some", "_law_found", "_law_k", "_law_drawn", "_law_axis", "_law_pin", "_law_bar"] ["_law_pins_here", "_law_bars_here", "_law_pulls", "_law_pushes", "_law_load"] (defScope s_law_at_rest) := ⟨rfl, rfl, rfl, by decide +kernel, rfl, by decide +kernel, by decide +kernel⟩
theorem sc_law_dot : FnScope ["_law_one", "_law_other"] ["_law_one", "_law_other"] (defScope s_law_dot) := ⟨rfl, rfl, rfl, by decide +kernel, rfl, by decide +kernel, by decide +kernel⟩
theorem sc_law_longer : FnScope ["_law_pins_here", "_law_bar", "_law_motion", "_law_here", "_law_there", "_law_more", "_law_axis"] ["_law_pins_here", "_law_bar", "_law_motion"] (defScope s_law_longer) := ⟨rfl, rfl, rfl, by decide +kernel, rfl, by decide +kernel, by decide +kernel⟩
theorem sc_law_keeps : FnScope ["_law_pins_here", "_law_motion", "_law_name_here", "_law_spot_here", "_law_ways_here", "_law_way"] ["_law_pins_here", "_law_motion"] (defScope s_law_keeps) := ⟨rfl, rfl, rfl, by decide +kernel, rfl, by decide +kernel, by decide +kernel⟩
theorem sc_law_asked : FnScope ["_law_frame_here", "_law_new_here", "e"] ["_law_frame_here", "_law_new_here"] (defScope s_law_asked) := ⟨rfl, rfl, rfl, by decide +kernel, rfl, by decide +kernel, by decide +kernel⟩
theorem sc_law_new : FnScope ["_law_script", "_law_pins_here", "_law_bars_here", "_law_cell", "_law_one", "_law_other", "_law_new_here", "_law_kind", "_law_due"] ["_law_script", "_law_pins_here", "_law_bars_here"] (defScope s_law_new) := ⟨rfl, rfl, rfl, by decide +kernel, rfl, by decide +kernel, by decide +kernel⟩
theorem sc_law_right : FnScope ["_law_pins_here", "_law_bars_here", "_law_new_here", "_law_ends", "_law_told", "_law_more", "_law_bar", "_law_longer_here"] ["_law_pins_here", "_law_bars_here", "_law_new_here", "_law_ends", "_law_told"] (defScope s_law_right) := ⟨rfl, rfl, rfl, by decide +kernel, rfl, by decide +kernel, by decide +kernel⟩
theorem sc_law_full : FnScope ["_law_frame_here", "_law_pins_here", "_law_bars_here", "_law_new_here", "_law_ends", "_law_k", "_law_one", "_law_due", "_law_told"] ["_law_frame_here", "_law_pins_here", "_law_bars_here", "_law_new_here", "_law_ends"] (defScope s_law_full) := ⟨rfl, rfl, rfl, by decide +kernel, rfl, by decide +kernel, by decide +kernel⟩
theorem sc_law : FnScope ["_law_script", "_law_pins_here", "_law_bars_here", "_law_frame_here", "_law_new_here", "_law_due", "_law_ends", "_law_told", "_law_name_here", "_law_spot_here", "_law_ways_here", "_law_part", "_law_again", "_law_other", "_law_one", "_law_bar"] ["_law_script"] (defScope s_law) := ⟨rfl, rfl, rfl, by decide +kernel, rfl, by decide +kernel, by decide +kernel⟩
/-- the defs, as the head's look finds them -/
def dfs : List He.DefD := [
  ⟨("PinThere", some "__init__"), "__init__", "PinThere.__init__", defArgs s_PinThere_init, defBody s_PinThere_init, defScope s_PinThere_init, [], []⟩,
  ⟨("SpotTaken", some "__init__"), "__init__", "SpotTaken.__init__", defArgs s_SpotTaken_init, defBody s_SpotTaken_init, defScope s_SpotTaken_init, [], []⟩,
  ⟨("NoPin", some "__init__"), "__init__", "NoPin.__init__", defArgs s_NoPin_init, defBody s_NoPin_init, defScope s_NoPin_init, [], []⟩,
  ⟨("BarThere", some "__init__"), "__init__", "BarThere.__init__", defArgs s_BarThere_init, defBody s_BarThere_init, defScope s_BarThere_init, [], []⟩,
  ⟨("NoBar", some "__init__"), "__init__", "NoBar.__init__", defArgs s_NoBar_init, defBody s_NoBar_init, defScope s_NoBar_init, [], []⟩,
  ⟨("NoLength", some "__init__"), "__init__", "NoLength.__init__", defArgs s_NoLength_init, defBody s_NoLength_init, defScope s_NoLength_init, [], []⟩,
  ⟨("is_whole", none), "is_whole", "is_whole", defArgs s_is_whole, defBody s_is_whole, defScope s_is_whole, [], []⟩,
  ⟨("shared_part", none), "shared_part", "shared_part", defArgs s_shared_part, defBody s_shared_part, defScope s_shared_part, [], []⟩,
  ⟨("ratio_of", none), "ratio_of", "ratio_of", defArgs s_ratio_of, defBody s_ratio_of, defScope s_ratio_of, [.int 1], []⟩,
  ⟨("difference_of", none), "difference_of", "difference_of", defArgs s_difference_of, defBody s_difference_of, defScope s_difference_of, [], []⟩,
  ⟨("arm_of", none), "arm_of", "arm_of", defArgs s_arm_of, defBody s_arm_of, defScope s_arm_of, [], []⟩,
  ⟨("turned_about", none), "turned_about", "turned_about", defArgs s_turned_about, defBody s_turned_about, defScope s_turned_about, [], []⟩,
  ⟨("pairs_of", none), "pairs_of", "pairs_of", defArgs s_pairs_of, defBody s_pairs_of, defScope s_pairs_of, [], []⟩,
  ⟨("column_by", none), "column_by", "column_by", defArgs s_column_by, defBody s_column_by, defScope s_column_by, [], []⟩,
  ⟨("way_columns", none), "way_columns", "way_columns", defArgs s_way_columns, defBody s_way_columns, defScope s_way_columns, [], []⟩,
  ⟨("bar_column", none), "bar_column", "bar_column", defArgs s_bar_column, defBody s_bar_column, defScope s_bar_column, [], []⟩,
  ⟨("bar_columns", none), "bar_columns", "bar_columns", defArgs s_bar_columns, defBody s_bar_columns, defScope s_bar_columns, [], []⟩,
  ⟨("rows_by", none), "rows_by", "rows_by", defArgs s_rows_by, defBody s_rows_by, defScope s_rows_by, [], []⟩,
  ⟨("pushes_by", none), "pushes_by", "pushes_by", defArgs s_pushes_by, defBody s_pushes_by, defScope s_pushes_by, [], []⟩,
  ⟨("motion_by", none), "motion_by", "motion_by", defArgs s_motion_by, defBody s_motion_by, defScope s_motion_by, [], []⟩,
  ⟨("shared_divisor", none), "shared_divisor", "shared_divisor", defArgs s_shared_divisor, defBody s_shared_divisor, defScope s_shared_divisor, [], []⟩,
  ⟨("lowest_row", none), "lowest_row", "lowest_row", defArgs s_lowest_row, defBody s_lowest_row, defScope s_lowest_row, [], []⟩,
  ⟨("joint_row", none), "joint_row", "joint_row", defArgs s_joint_row, defBody s_joint_row, defScope s_joint_row, [], []⟩,
  ⟨("joint_rows", none), "joint_rows", "joint_rows", defArgs s_joint_rows, defBody s_joint_rows, defScope s_joint_rows, [], []⟩,
  ⟨("cleared_row", none), "cleared_row", "cleared_row", defArgs s_cleared_row, defBody s_cleared_row, defScope s_cleared_row, [], []⟩,
  ⟨("led_rows", none), "led_rows", "led_rows", defArgs s_led_rows, defBody s_led_rows, defScope s_led_rows, [], []⟩,
  ⟨("parts_of", none), "parts_of", "parts_of", defArgs s_parts_of, defBody s_parts_of, defScope s_parts_of, [], []⟩,
  ⟨("solve_rows", none), "solve_rows", "solve_rows", defArgs s_solve_rows, defBody s_solve_rows, defScope s_solve_rows, [], []⟩,
  ⟨("column_told", none), "column_told", "column_told", defArgs s_column_told, defBody s_column_told, defScope s_column_told, [], []⟩,
  ⟨("would_put", none), "would_put", "would_put", defArgs s_would_put, defBody s_would_put, defScope s_would_put, [], []⟩,
  ⟨("Hold", some "ways"), "ways", "Hold.ways", defArgs s_Hold_ways, defBody s_Hold_ways, defScope s_Hold_ways, [], []⟩,
  ⟨("Roller", some "__init__"), "__init__", "Roller.__init__", defArgs s_Roller_init, defBody s_Roller_init, defScope s_Roller_init, [], []⟩,
  ⟨("Roller", some "ways"), "ways", "Roller.ways", defArgs s_Roller_ways, defBody s_Roller_ways, defScope s_Roller_ways, [], []⟩,
  ⟨("Fixed", some "ways"), "ways", "Fixed.ways", defArgs s_Fixed_ways, defBody s_Fixed_ways, defScope s_Fixed_ways, [], []⟩,
  ⟨("Frame", some "__init__"), "__init__", "Frame.__init__", defArgs s_Frame_init, defBody s_Frame_init, defScope s_Frame_init, [], []⟩,
  ⟨("Frame", some "pin_at"), "pin_at", "Frame.pin_at", defArgs s_Frame_pin_at, defBody s_Frame_pin_at, defScope s_Frame_pin_at, [], []⟩,
  ⟨("Frame", some "put_pin"), "put_pin", "Frame.put_pin", defArgs s_Frame_put_pin, defBody s_Frame_put_pin, defScope s_Frame_put_pin, [.non], []⟩,
  ⟨("Frame", some "ask_bar"), "ask_bar", "Frame.ask_bar", defArgs s_Frame_ask_bar, defBody s_Frame_ask_bar, defScope s_Frame_ask_bar, [], []⟩,
  ⟨("Frame", some "put_bar"), "put_bar", "Frame.put_bar", defArgs s_Frame_put_bar, defBody s_Frame_put_bar, defScope s_Frame_put_bar, [], []⟩,
  ⟨("Frame", some "pins"), "pins", "Frame.pins", defArgs s_Frame_pins, defBody s_Frame_pins, defScope s_Frame_pins, [], []⟩,
  ⟨("Frame", some "bars"), "bars", "Frame.bars", defArgs s_Frame_bars, defBody s_Frame_bars, defScope s_Frame_bars, [], []⟩,
  ⟨("Frame", some "place"), "place", "Frame.place", defArgs s_Frame_place, defBody s_Frame_place, defScope s_Frame_place, [], []⟩,
  ⟨("Frame", some "ways"), "ways", "Frame.ways", defArgs s_Frame_ways, defBody s_Frame_ways, defScope s_Frame_ways, [], []⟩,
  ⟨("Frame", some "ends"), "ends", "Frame.ends", defArgs s_Frame_ends, defBody s_Frame_ends, defScope s_Frame_ends, [], []⟩,
  ⟨("_law_cell_at", none), "_law_cell_at", "_law_cell_at", defArgs s_law_cell_at, defBody s_law_cell_at, defScope s_law_cell_at, [], []⟩,
  ⟨("_law_field", none), "_law_field", "_law_field", defArgs s_law_field, defBody s_law_field, defScope s_law_field, [], []⟩,
  ⟨("_law_lowest", none), "_law_lowest", "_law_lowest", defArgs s_law_lowest, defBody s_law_lowest, defScope s_law_lowest, [], []⟩,
  ⟨("_law_sum", none), "_law_sum", "_law_sum", defArgs s_law_sum, defBody s_law_sum, defScope s_law_sum, [], []⟩,
  ⟨("_law_times", none), "_law_times", "_law_times", defArgs s_law_times, defBody s_law_times, defScope s_law_times, [], []⟩,
  ⟨("_law_turned", none), "_law_turned", "_law_turned", defArgs s_law_turned, defBody s_law_turned, defScope s_law_turned, [], []⟩,
  ⟨("_law_name", none), "_law_name", "_law_name", defArgs s_law_name, defBody s_law_name, defScope s_law_name, [], []⟩,
  ⟨("_law_spot", none), "_law_spot", "_law_spot", defArgs s_law_spot, defBody s_law_spot, defScope s_law_spot, [], []⟩,
  ⟨("_law_ways", none), "_law_ways", "_law_ways", defArgs s_law_ways, defBody s_law_ways, defScope s_law_ways, [], []⟩,
  ⟨("_law_pins", none), "_law_pins", "_law_pins", defArgs s_law_pins, defBody s_law_pins, defScope s_law_pins, [], []⟩,
  ⟨("_law_bars", none), "_law_bars", "_law_bars", defArgs s_law_bars, defBody s_law_bars, defScope s_law_bars, [], []⟩,
  ⟨("_law_frame", none), "_law_frame", "_law_frame", defArgs s_law_frame, defBody s_law_frame, defScope s_law_frame, [], []⟩,
  ⟨("_law_arm", none), "_law_arm", "_law_arm", defArgs s_law_arm, defBody s_law_arm, defScope s_law_arm, [], []⟩,
  ⟨("_law_add", none), "_law_add", "_law_add", defArgs s_law_add, defBody s_law_add, defScope s_law_add, [], []⟩,
  ⟨("_law_forces", none), "_law_forces", "_law_forces", defArgs s_law_forces, defBody s_law_forces, defScope s_law_forces, [], []⟩,
  ⟨("_law_number", none), "_law_number", "_law_number", defArgs s_law_number, defBody s_law_number, defScope s_law_number, [], []⟩,
  ⟨("_law_are_forces", none), "_law_are_forces", "_law_are_forces", defArgs s_law_are_forces, defBody s_law_are_forces, defScope s_law_are_forces, [], []⟩,
  ⟨("_law_is_motion", none), "_law_is_motion", "_law_is_motion", defArgs s_law_is_motion, defBody s_law_is_motion, defScope s_law_is_motion, [], []⟩,
  ⟨("_law_at_rest", none), "_law_at_rest", "_law_at_rest", defArgs s_law_at_rest, defBody s_law_at_rest, defScope s_law_at_rest, [], []⟩,
  ⟨("_law_dot", none), "_law_dot", "_law_dot", defArgs s_law_dot, defBody s_law_dot, defScope s_law_dot, [], []⟩,
  ⟨("_law_longer", none), "_law_longer", "_law_longer", defArgs s_law_longer, defBody s_law_longer, defScope s_law_longer, [], []⟩,
  ⟨("_law_keeps", none), "_law_keeps", "_law_keeps", defArgs s_law_keeps, defBody s_law_keeps, defScope s_law_keeps, [], []⟩,
  ⟨("_law_asked", none), "_law_asked", "_law_asked", defArgs s_law_asked, defBody s_law_asked, defScope s_law_asked, [], []⟩,
  ⟨("_law_new", none), "_law_new", "_law_new", defArgs s_law_new, defBody s_law_new, defScope s_law_new, [], []⟩,
  ⟨("_law_right", none), "_law_right", "_law_right", defArgs s_law_right, defBody s_law_right, defScope s_law_right, [], []⟩,
  ⟨("_law_full", none), "_law_full", "_law_full", defArgs s_law_full, defBody s_law_full, defScope s_law_full, [], []⟩,
  ⟨("law", none), "law", "law", defArgs s_law, defBody s_law, defScope s_law, [], []⟩]
def gnames : List Str := [("is_whole" : Str), ("shared_part" : Str), ("ratio_of" : Str), ("difference_of" : Str), ("arm_of" : Str), ("turned_about" : Str), ("pairs_of" : Str), ("column_by" : Str), ("way_columns" : Str), ("bar_column" : Str), ("bar_columns" : Str), ("rows_by" : Str), ("pushes_by" : Str), ("motion_by" : Str), ("shared_divisor" : Str), ("lowest_row" : Str), ("joint_row" : Str), ("joint_rows" : Str), ("cleared_row" : Str), ("led_rows" : Str), ("parts_of" : Str), ("solve_rows" : Str), ("column_told" : Str), ("would_put" : Str), ("_law_cell_at" : Str), ("_law_field" : Str), ("_law_lowest" : Str), ("_law_sum" : Str), ("_law_times" : Str), ("_law_turned" : Str), ("_law_name" : Str), ("_law_spot" : Str), ("_law_ways" : Str), ("_law_pins" : Str), ("_law_bars" : Str), ("_law_frame" : Str), ("_law_arm" : Str), ("_law_add" : Str), ("_law_forces" : Str), ("_law_number" : Str), ("_law_are_forces" : Str), ("_law_is_motion" : Str), ("_law_at_rest" : Str), ("_law_dot" : Str), ("_law_longer" : Str), ("_law_keeps" : Str), ("_law_asked" : Str), ("_law_new" : Str), ("_law_right" : Str), ("_law_full" : Str), ("law" : Str), ("YardError" : Str), ("NoNumber" : Str), ("NoWay" : Str), ("PinThere" : Str), ("SpotTaken" : Str), ("NoPin" : Str), ("BarThere" : Str), ("NoBar" : Str), ("NoLength" : Str), ("TooMany" : Str), ("Hold" : Str), ("Roller" : Str), ("Fixed" : Str), ("Frame" : Str), ("NOUGHT_equations" : Str), ("NOUGHT_solving" : Str), ("ONE" : Str)]
def fnames : List Str := [("isinstance" : Str), ("int" : Str), ("bool" : Str), ("abs" : Str), ("len" : Str), ("list" : Str), ("range" : Str), ("enumerate" : Str), ("tuple" : Str), ("dict" : Str), ("all" : Str), ("min" : Str), ("str" : Str), ("ValueError" : Str)]
/-- the function object at f -/
def fdAt (K : PySem.W.Frag) (f : Addr) : FuncData := match K.lookup f with
  | some ⟨_, _, .func fd, _⟩ => fd
  | _ => ⟨"", "", ⟨[], [], none, [], [], none, []⟩, .stmts [], ⟨.function, [], false, false, []⟩, 0, [], .none, .none, .none, .none, none, .none, .none, 0⟩
structure Txt (K : PySem.W.Frag) (mg : Str → Option Value) : Prop where
  glo : ∀ (i : Nat) (x : Str), gnames[i]? = some x → mg x = some (.ref (He.ga K x))
  fre : ∀ (i : Nat) (x : Str), fnames[i]? = some x → mg x = none
  fn : ∀ (i : Nat) (d : He.DefD), dfs[i]? = some d → FunD K d.name d.qual d.params d.body d.scope (d.dvs K) (d.kws K) (He.fAd K d.at_) (fdAt K (He.fAd K d.at_))
  x_MOST_PINS : ∃ t, mg "MOST_PINS" = some (.int 24 t)
  x_MOST_BARS : ∃ t, mg "MOST_BARS" = some (.int 60 t)
  t_NE : ∀ H, SqT K H (He.ga K "NOUGHT_equations") [.int 0, .int 1]
  t_NS : ∀ H, SqT K H (He.ga K "NOUGHT_solving") [.int 0, .int 1]
  t_ONE : ∀ H, SqT K H (He.ga K "ONE") [.int 1, .int 1]
  cl_Hold : Cls K (He.ga K "Hold")
  cl_Roller : Cls K (He.ga K "Roller")
  cl_Fixed : Cls K (He.ga K "Fixed")
  cl_Frame : Cls K (He.ga K "Frame")
  a_Frame_spots : NoAttr K (He.ga K "Frame") "spots"
  a_Frame_kept : NoAttr K (He.ga K "Frame") "kept"
  a_Frame_joints : NoAttr K (He.ga K "Frame") "joints"
  a_Roller_across : NoAttr K (He.ga K "Roller") "across"
  a_Roller_upward : NoAttr K (He.ga K "Roller") "upward"
  m_Hold_ways : Meth K (He.ga K "Hold") "ways" (He.ma K (He.ga K "Hold") "ways")
  m_Roller_ways : Meth K (He.ga K "Roller") "ways" (He.ma K (He.ga K "Roller") "ways")
  m_Fixed_ways : Meth K (He.ga K "Fixed") "ways" (He.ma K (He.ga K "Fixed") "ways")
  m_Frame_pin_at : Meth K (He.ga K "Frame") "pin_at" (He.ma K (He.ga K "Frame") "pin_at")
  m_Frame_put_pin : Meth K (He.ga K "Frame") "put_pin" (He.ma K (He.ga K "Frame") "put_pin")
  m_Frame_ask_bar : Meth K (He.ga K "Frame") "ask_bar" (He.ma K (He.ga K "Frame") "ask_bar")
  m_Frame_put_bar : Meth K (He.ga K "Frame") "put_bar" (He.ma K (He.ga K "Frame") "put_bar")
  m_Frame_pins : Meth K (He.ga K "Frame") "pins" (He.ma K (He.ga K "Frame") "pins")
  m_Frame_bars : Meth K (He.ga K "Frame") "bars" (He.ma K (He.ga K "Frame") "bars")
  m_Frame_place : Meth K (He.ga K "Frame") "place" (He.ma K (He.ga K "Frame") "place")
  m_Frame_ways : Meth K (He.ga K "Frame") "ways" (He.ma K (He.ga K "Frame") "ways")
  m_Frame_ends : Meth K (He.ga K "Frame") "ends" (He.ma K (He.ga K "Frame") "ends")
  mk_Frame : Mk K (He.ga K "Frame") (He.ma K (He.ga K "Frame") "__init__")
  mk_Roller : Mk K (He.ga K "Roller") (He.ma K (He.ga K "Roller") "__init__")
  mn_Hold : MkN K (He.ga K "Hold")
  mn_Fixed : MkN K (He.ga K "Fixed")
section
variable {K : PySem.W.Frag} {mg : Str → Option Value}
theorem Txt.g_is_whole (T : Txt K mg) : mg "is_whole" = some (.ref (He.ga K "is_whole")) := T.glo 0 _ rfl
theorem Txt.g_shared_part (T : Txt K mg) : mg "shared_part" = some (.ref (He.ga K "shared_part")) := T.glo 1 _ rfl
theorem Txt.g_ratio_of (T : Txt K mg) : mg "ratio_of" = some (.ref (He.ga K "ratio_of")) := T.glo 2 _ rfl
theorem Txt.g_difference_of (T : Txt K mg) : mg "difference_of" = some (.ref (He.ga K "difference_of")) := T.glo 3 _ rfl
theorem Txt.g_arm_of (T : Txt K mg) : mg "arm_of" = some (.ref (He.ga K "arm_of")) := T.glo 4 _ rfl
theorem Txt.g_turned_about (T : Txt K mg) : mg "turned_about" = some (.ref (He.ga K "turned_about")) := T.glo 5 _ rfl
theorem Txt.g_pairs_of (T : Txt K mg) : mg "pairs_of" = some (.ref (He.ga K "pairs_of")) := T.glo 6 _ rfl
theorem Txt.g_column_by (T : Txt K mg) : mg "column_by" = some (.ref (He.ga K "column_by")) := T.glo 7 _ rfl
theorem Txt.g_way_columns (T : Txt K mg) : mg "way_columns" = some (.ref (He.ga K "way_columns")) := T.glo 8 _ rfl
theorem Txt.g_bar_column (T : Txt K mg) : mg "bar_column" = some (.ref (He.ga K "bar_column")) := T.glo 9 _ rfl
theorem Txt.g_bar_columns (T : Txt K mg) : mg "bar_columns" = some (.ref (He.ga K "bar_columns")) := T.glo 10 _ rfl
theorem Txt.g_rows_by (T : Txt K mg) : mg "rows_by" = some (.ref (He.ga K "rows_by")) := T.glo 11 _ rfl
theorem Txt.g_pushes_by (T : Txt K mg) : mg "pushes_by" = some (.ref (He.ga K "pushes_by")) := T.glo 12 _ rfl
theorem Txt.g_motion_by (T : Txt K mg) : mg "motion_by" = some (.ref (He.ga K "motion_by")) := T.glo 13 _ rfl
theorem Txt.g_shared_divisor (T : Txt K mg) : mg "shared_divisor" = some (.ref (He.ga K "shared_divisor")) := T.glo 14 _ rfl
theorem Txt.g_lowest_row (T : Txt K mg) : mg "lowest_row" = some (.ref (He.ga K "lowest_row")) := T.glo 15 _ rfl
theorem Txt.g_joint_row (T : Txt K mg) : mg "joint_row" = some (.ref (He.ga K "joint_row")) := T.glo 16 _ rfl
theorem Txt.g_joint_rows (T : Txt K mg) : mg "joint_rows" = some (.ref (He.ga K "joint_rows")) := T.glo 17 _ rfl
theorem Txt.g_cleared_row (T : Txt K mg) : mg "cleared_row" = some (.ref (He.ga K "cleared_row")) := T.glo 18 _ rfl
theorem Txt.g_led_rows (T : Txt K mg) : mg "led_rows" = some (.ref (He.ga K "led_rows")) := T.glo 19 _ rfl
theorem Txt.g_parts_of (T : Txt K mg) : mg "parts_of" = some (.ref (He.ga K "parts_of")) := T.glo 20 _ rfl
theorem Txt.g_solve_rows (T : Txt K mg) : mg "solve_rows" = some (.ref (He.ga K "solve_rows")) := T.glo 21 _ rfl
theorem Txt.g_column_told (T : Txt K mg) : mg "column_told" = some (.ref (He.ga K "column_told")) := T.glo 22 _ rfl
theorem Txt.g_would_put (T : Txt K mg) : mg "would_put" = some (.ref (He.ga K "would_put")) := T.glo 23 _ rfl
theorem Txt.g_law_cell_at (T : Txt K mg) : mg "_law_cell_at" = some (.ref (He.ga K "_law_cell_at")) := T.glo 24 _ rfl
theorem Txt.g_law_field (T : Txt K mg) : mg "_law_field" = some (.ref (He.ga K "_law_field")) := T.glo 25 _ rfl
theorem Txt.g_law_lowest (T : Txt K mg) : mg "_law_lowest" = some (.ref (He.ga K "_law_lowest")) := T.glo 26 _ rfl
theorem Txt.g_law_sum (T : Txt K mg) : mg "_law_sum" = some (.ref (He.ga K "_law_sum")) := T.glo 27 _ rfl
theorem Txt.g_law_times (T : Txt K mg) : mg "_law_times" = some (.ref (He.ga K "_law_times")) := T.glo 28 _ rfl
theorem Txt.g_law_turned (T : Txt K mg) : mg "_law_turned" = some (.ref (He.ga K "_law_turned")) := T.glo 29 _ rfl
theorem Txt.g_law_name (T : Txt K mg) : mg "_law_name" = some (.ref (He.ga K "_law_name")) := T.glo 30 _ rfl
theorem Txt.g_law_spot (T : Txt K mg) : mg "_law_spot" = some (.ref (He.ga K "_law_spot")) := T.glo 31 _ rfl
theorem Txt.g_law_ways (T : Txt K mg) : mg "_law_ways" = some (.ref (He.ga K "_law_ways")) := T.glo 32 _ rfl
theorem Txt.g_law_pins (T : Txt K mg) : mg "_law_pins" = some (.ref (He.ga K "_law_pins")) := T.glo 33 _ rfl
theorem Txt.g_law_bars (T : Txt K mg) : mg "_law_bars" = some (.ref (He.ga K "_law_bars")) := T.glo 34 _ rfl
theorem Txt.g_law_frame (T : Txt K mg) : mg "_law_frame" = some (.ref (He.ga K "_law_frame")) := T.glo 35 _ rfl
theorem Txt.g_law_arm (T : Txt K mg) : mg "_law_arm" = some (.ref (He.ga K "_law_arm")) := T.glo 36 _ rfl
theorem Txt.g_law_add (T : Txt K mg) : mg "_law_add" = some (.ref (He.ga K "_law_add")) := T.glo 37 _ rfl
theorem Txt.g_law_forces (T : Txt K mg) : mg "_law_forces" = some (.ref (He.ga K "_law_forces")) := T.glo 38 _ rfl
theorem Txt.g_law_number (T : Txt K mg) : mg "_law_number" = some (.ref (He.ga K "_law_number")) := T.glo 39 _ rfl
theorem Txt.g_law_are_forces (T : Txt K mg) : mg "_law_are_forces" = some (.ref (He.ga K "_law_are_forces")) := T.glo 40 _ rfl
theorem Txt.g_law_is_motion (T : Txt K mg) : mg "_law_is_motion" = some (.ref (He.ga K "_law_is_motion")) := T.glo 41 _ rfl
theorem Txt.g_law_at_rest (T : Txt K mg) : mg "_law_at_rest" = some (.ref (He.ga K "_law_at_rest")) := T.glo 42 _ rfl
theorem Txt.g_law_dot (T : Txt K mg) : mg "_law_dot" = some (.ref (He.ga K "_law_dot")) := T.glo 43 _ rfl
theorem Txt.g_law_longer (T : Txt K mg) : mg "_law_longer" = some (.ref (He.ga K "_law_longer")) := T.glo 44 _ rfl
theorem Txt.g_law_keeps (T : Txt K mg) : mg "_law_keeps" = some (.ref (He.ga K "_law_keeps")) := T.glo 45 _ rfl
theorem Txt.g_law_asked (T : Txt K mg) : mg "_law_asked" = some (.ref (He.ga K "_law_asked")) := T.glo 46 _ rfl
theorem Txt.g_law_new (T : Txt K mg) : mg "_law_new" = some (.ref (He.ga K "_law_new")) := T.glo 47 _ rfl
theorem Txt.g_law_right (T : Txt K mg) : mg "_law_right" = some (.ref (He.ga K "_law_right")) := T.glo 48 _ rfl
theorem Txt.g_law_full (T : Txt K mg) : mg "_law_full" = some (.ref (He.ga K "_law_full")) := T.glo 49 _ rfl
theorem Txt.g_law (T : Txt K mg) : mg "law" = some (.ref (He.ga K "law")) := T.glo 50 _ rfl
theorem Txt.g_YardError (T : Txt K mg) : mg "YardError" = some (.ref (He.ga K "YardError")) := T.glo 51 _ rfl
theorem Txt.g_NoNumber (T : Txt K mg) : mg "NoNumber" = some (.ref (He.ga K "NoNumber")) := T.glo 52 _ rfl
theorem Txt.g_NoWay (T : Txt K mg) : mg "NoWay" = some (.ref (He.ga K "NoWay")) := T.glo 53 _ rfl
theorem Txt.g_PinThere (T : Txt K mg) : mg "PinThere" = some (.ref (He.ga K "PinThere")) := T.glo 54 _ rfl
theorem Txt.g_SpotTaken (T : Txt K mg) : mg "SpotTaken" = some (.ref (He.ga K "SpotTaken")) := T.glo 55 _ rfl
theorem Txt.g_NoPin (T : Txt K mg) : mg "NoPin" = some (.ref (He.ga K "NoPin")) := T.glo 56 _ rfl
theorem Txt.g_BarThere (T : Txt K mg) : mg "BarThere" = some (.ref (He.ga K "BarThere")) := T.glo 57 _ rfl
theorem Txt.g_NoBar (T : Txt K mg) : mg "NoBar" = some (.ref (He.ga K "NoBar")) := T.glo 58 _ rfl
theorem Txt.g_NoLength (T : Txt K mg) : mg "NoLength" = some (.ref (He.ga K "NoLength")) := T.glo 59 _ rfl
theorem Txt.g_TooMany (T : Txt K mg) : mg "TooMany" = some (.ref (He.ga K "TooMany")) := T.glo 60 _ rfl
theorem Txt.g_Hold (T : Txt K mg) : mg "Hold" = some (.ref (He.ga K "Hold")) := T.glo 61 _ rfl
theorem Txt.g_Roller (T : Txt K mg) : mg "Roller" = some (.ref (He.ga K "Roller")) := T.glo 62 _ rfl
theorem Txt.g_Fixed (T : Txt K mg) : mg "Fixed" = some (.ref (He.ga K "Fixed")) := T.glo 63 _ rfl
theorem Txt.g_Frame (T : Txt K mg) : mg "Frame" = some (.ref (He.ga K "Frame")) := T.glo 64 _ rfl
theorem Txt.g_NOUGHT_equations (T : Txt K mg) : mg "NOUGHT_equations" = some (.ref (He.ga K "NOUGHT_equations")) := T.glo 65 _ rfl
theorem Txt.g_NOUGHT_solving (T : Txt K mg) : mg "NOUGHT_solving" = some (.ref (He.ga K "NOUGHT_solving")) := T.glo 66 _ rfl
theorem Txt.g_ONE (T : Txt K mg) : mg "ONE" = some (.ref (He.ga K "ONE")) := T.glo 67 _ rfl
theorem Txt.n_isinstance (T : Txt K mg) : mg "isinstance" = none := T.fre 0 _ rfl
theorem Txt.n_int (T : Txt K mg) : mg "int" = none := T.fre 1 _ rfl
theorem Txt.n_bool (T : Txt K mg) : mg "bool" = none := T.fre 2 _ rfl
theorem Txt.n_abs (T : Txt K mg) : mg "abs" = none := T.fre 3 _ rfl
theorem Txt.n_len (T : Txt K mg) : mg "len" = none := T.fre 4 _ rfl
theorem Txt.n_list (T : Txt K mg) : mg "list" = none := T.fre 5 _ rfl
theorem Txt.n_range (T : Txt K mg) : mg "range" = none := T.fre 6 _ rfl
theorem Txt.n_enumerate (T : Txt K mg) : mg "enumerate" = none := T.fre 7 _ rfl
theorem Txt.n_tuple (T : Txt K mg) : mg "tuple" = none := T.fre 8 _ rfl
theorem Txt.n_dict (T : Txt K mg) : mg "dict" = none := T.fre 9 _ rfl
theorem Txt.n_all (T : Txt K mg) : mg "all" = none := T.fre 10 _ rfl
theorem Txt.n_min (T : Txt K mg) : mg "min" = none := T.fre 11 _ rfl
theorem Txt.n_str (T : Txt K mg) : mg "str" = none := T.fre 12 _ rfl
theorem Txt.n_ValueError (T : Txt K mg) : mg "ValueError" = none := T.fre 13 _ rfl
theorem Txt.F_PinThere_init (T : Txt K mg) : FunD K "__init__" "PinThere.__init__" (defArgs s_PinThere_init) (defBody s_PinThere_init) (defScope s_PinThere_init) [] [] (He.ma K (He.ga K "PinThere") "__init__") (fdAt K (He.ma K (He.ga K "PinThere") "__init__")) := T.fn 0 _ rfl
theorem Txt.b_PinThere_init (T : Txt K mg) : Binds K (fdAt K (He.ma K (He.ga K "PinThere") "__init__")) ["self", "pin"] [] := T.F_PinThere_init.bindsN fun _ _ _ _ _ _ us hl => match us, hl with | [_, _], _ => rfl
theorem Txt.F_SpotTaken_init (T : Txt K mg) : FunD K "__init__" "SpotTaken.__init__" (defArgs s_SpotTaken_init) (defBody s_SpotTaken_init) (defScope s_SpotTaken_init) [] [] (He.ma K (He.ga K "SpotTaken") "__init__") (fdAt K (He.ma K (He.ga K "SpotTaken") "__init__")) := T.fn 1 _ rfl
theorem Txt.b_SpotTaken_init (T : Txt K mg) : Binds K (fdAt K (He.ma K (He.ga K "SpotTaken") "__init__")) ["self", "pin"] [] := T.F_SpotTaken_init.bindsN fun _ _ _ _ _ _ us hl => match us, hl with | [_, _], _ => rfl
theorem Txt.F_NoPin_init (T : Txt K mg) : FunD K "__init__" "NoPin.__init__" (defArgs s_NoPin_init) (defBody s_NoPin_init) (defScope s_NoPin_init) [] [] (He.ma K (He.ga K "NoPin") "__init__") (fdAt K (He.ma K (He.ga K "NoPin") "__init__")) := T.fn 2 _ rfl
theorem Txt.b_NoPin_init (T : Txt K mg) : Binds K (fdAt K (He.ma K (He.ga K "NoPin") "__init__")) ["self", "pin"] [] := T.F_NoPin_init.bindsN fun _ _ _ _ _ _ us hl => match us, hl with | [_, _], _ => rfl
theorem Txt.F_BarThere_init (T : Txt K mg) : FunD K "__init__" "BarThere.__init__" (defArgs s_BarThere_init) (defBody s_BarThere_init) (defScope s_BarThere_init) [] [] (He.ma K (He.ga K "BarThere") "__init__") (fdAt K (He.ma K (He.ga K "BarThere") "__init__")) := T.fn 3 _ rfl
theorem Txt.b_BarThere_init (T : Txt K mg) : Binds K (fdAt K (He.ma K (He.ga K "BarThere") "__init__")) ["self", "bar"] [] := T.F_BarThere_init.bindsN fun _ _ _ _ _ _ us hl => match us, hl with | [_, _], _ => rfl
theorem Txt.F_NoBar_init (T : Txt K mg) : FunD K "__init__" "NoBar.__init__" (defArgs s_NoBar_init) (defBody s_NoBar_init) (defScope s_NoBar_init) [] [] (He.ma K (He.ga K "NoBar") "__init__") (fdAt K (He.ma K (He.ga K "NoBar") "__init__")) := T.fn 4 _ rfl
theorem Txt.b_NoBar_init (T : Txt K mg) : Binds K (fdAt K (He.ma K (He.ga K "NoBar") "__init__")) ["self", "bar"] [] := T.F_NoBar_init.bindsN fun _ _ _ _ _ _ us hl => match us, hl with | [_, _], _ => rfl
theorem Txt.F_NoLength_init (T : Txt K mg) : FunD K "__init__" "NoLength.__init__" (defArgs s_NoLength_init) (defBody s_NoLength_init) (defScope s_NoLength_init) [] [] (He.ma K (He.ga K "NoLength") "__init__") (fdAt K (He.ma K (He.ga K "NoLength") "__init__")) := T.fn 5 _ rfl
theorem Txt.b_NoLength_init (T : Txt K mg) : Binds K (fdAt K (He.ma K (He.ga K "NoLength") "__init__")) ["self", "bar"] [] := T.F_NoLength_init.bindsN fun _ _ _ _ _ _ us hl => match us, hl with | [_, _], _ => rfl
theorem Txt.F_is_whole (T : Txt K mg) : FunD K "is_whole" "is_whole" (defArgs s_is_whole) (defBody s_is_whole) (defScope s_is_whole) [] [] (He.ga K "is_whole") (fdAt K (He.ga K "is_whole")) := T.fn 6 _ rfl
theorem Txt.b_is_whole (T : Txt K mg) : Binds K (fdAt K (He.ga K "is_whole")) ["thing"] [] := T.F_is_whole.bindsN fun _ _ _ _ _ _ us hl => match us, hl with | [_], _ => rfl
theorem Txt.F_shared_part (T : Txt K mg) : FunD K "shared_part" "shared_part" (defArgs s_shared_part) (defBody s_shared_part) (defScope s_shared_part) [] [] (He.ga K "shared_part") (fdAt K (He.ga K "shared_part")) := T.fn 7 _ rfl
theorem Txt.b_shared_part (T : Txt K mg) : Binds K (fdAt K (He.ga K "shared_part")) ["one", "other"] [] := T.F_shared_part.bindsN fun _ _ _ _ _ _ us hl => match us, hl with | [_, _], _ => rfl
theorem Txt.F_ratio_of (T : Txt K mg) : FunD K "ratio_of" "ratio_of" (defArgs s_ratio_of) (defBody s_ratio_of) (defScope s_ratio_of) [.int 1] [] (He.ga K "ratio_of") (fdAt K (He.ga K "ratio_of")) := T.fn 8 _ rfl
theorem Txt.b_ratio_of (T : Txt K mg) : Binds K (fdAt K (He.ga K "ratio_of")) ["top", "bottom"] [] := by
  obtain ⟨ds, v, b⟩ := T.F_ratio_of.binds1 (ps := ["top", "bottom"]) 2 1 (by simp) rfl (fun T kV doc pm an cdv ct us its hl hi => match us, hl, its, hi with | [_, _], _, [_], _ => ⟨_, rfl, rfl⟩)
  cases v
  exact b
theorem Txt.F_difference_of (T : Txt K mg) : FunD K "difference_of" "difference_of" (defArgs s_difference_of) (defBody s_difference_of) (defScope s_difference_of) [] [] (He.ga K "difference_of") (fdAt K (He.ga K "difference_of")) := T.fn 9 _ rfl
theorem Txt.b_difference_of (T : Txt K mg) : Binds K (fdAt K (He.ga K "difference_of")) ["one", "other"] [] := T.F_difference_of.bindsN fun _ _ _ _ _ _ us hl => match us, hl with | [_, _], _ => rfl
theorem Txt.F_arm_of (T : Txt K mg) : FunD K "arm_of" "arm_of" (defArgs s_arm_of) (defBody s_arm_of) (defScope s_arm_of) [] [] (He.ga K "arm_of") (fdAt K (He.ga K "arm_of")) := T.fn 10 _ rfl
theorem Txt.b_arm_of (T : Txt K mg) : Binds K (fdAt K (He.ga K "arm_of")) ["frame", "bar"] [] := T.F_arm_of.bindsN fun _ _ _ _ _ _ us hl => match us, hl with | [_, _], _ => rfl
theorem Txt.F_turned_about (T : Txt K mg) : FunD K "turned_about" "turned_about" (defArgs s_turned_about) (defBody s_turned_about) (defScope s_turned_about) [] [] (He.ga K "turned_about") (fdAt K (He.ga K "turned_about")) := T.fn 11 _ rfl
theorem Txt.b_turned_about (T : Txt K mg) : Binds K (fdAt K (He.ga K "turned_about")) ["one"] [] := T.F_turned_about.bindsN fun _ _ _ _ _ _ us hl => match us, hl with | [_], _ => rfl
theorem Txt.F_pairs_of (T : Txt K mg) : FunD K "pairs_of" "pairs_of" (defArgs s_pairs_of) (defBody s_pairs_of) (defScope s_pairs_of) [] [] (He.ga K "pairs_of") (fdAt K (He.ga K "pairs_of")) := T.fn 12 _ rfl
theorem Txt.b_pairs_of (T : Txt K mg) : Binds K (fdAt K (He.ga K "pairs_of")) ["frame"] [] := T.F_pairs_of.bindsN fun _ _ _ _ _ _ us hl => match us, hl with | [_], _ => rfl
theorem Txt.F_column_by (T : Txt K mg) : FunD K "column_by" "column_by" (defArgs s_column_by) (defBody s_column_by) (defScope s_column_by) [] [] (He.ga K "column_by") (fdAt K (He.ga K "column_by")) := T.fn 13 _ rfl
theorem Txt.b_column_by (T : Txt K mg) : Binds K (fdAt K (He.ga K "column_by")) ["pairs", "draws"] [] := T.F_column_by.bindsN fun _ _ _ _ _ _ us hl => match us, hl with | [_, _], _ => rfl
theorem Txt.F_way_columns (T : Txt K mg) : FunD K "way_columns" "way_columns" (defArgs s_way_columns) (defBody s_way_columns) (defScope s_way_columns) [] [] (He.ga K "way_columns") (fdAt K (He.ga K "way_columns")) := T.fn 14 _ rfl
theorem Txt.b_way_columns (T : Txt K mg) : Binds K (fdAt K (He.ga K "way_columns")) ["frame"] [] := T.F_way_columns.bindsN fun _ _ _ _ _ _ us hl => match us, hl with | [_], _ => rfl
theorem Txt.F_bar_column (T : Txt K mg) : FunD K "bar_column" "bar_column" (defArgs s_bar_column) (defBody s_bar_column) (defScope s_bar_column) [] [] (He.ga K "bar_column") (fdAt K (He.ga K "bar_column")) := T.fn 15 _ rfl
theorem Txt.b_bar_column (T : Txt K mg) : Binds K (fdAt K (He.ga K "bar_column")) ["frame", "one", "other", "arm"] [] := T.F_bar_column.bindsN fun _ _ _ _ _ _ us hl => match us, hl with | [_, _, _, _], _ => rfl
theorem Txt.F_bar_columns (T : Txt K mg) : FunD K "bar_columns" "bar_columns" (defArgs s_bar_columns) (defBody s_bar_columns) (defScope s_bar_columns) [] [] (He.ga K "bar_columns") (fdAt K (He.ga K "bar_columns")) := T.fn 16 _ rfl
theorem Txt.b_bar_columns (T : Txt K mg) : Binds K (fdAt K (He.ga K "bar_columns")) ["frame"] [] := T.F_bar_columns.bindsN fun _ _ _ _ _ _ us hl => match us, hl with | [_], _ => rfl
theorem Txt.F_rows_by (T : Txt K mg) : FunD K "rows_by" "rows_by" (defArgs s_rows_by) (defBody s_rows_by) (defScope s_rows_by) [] [] (He.ga K "rows_by") (fdAt K (He.ga K "rows_by")) := T.fn 17 _ rfl
theorem Txt.b_rows_by (T : Txt K mg) : Binds K (fdAt K (He.ga K "rows_by")) ["frame", "columns"] [] := T.F_rows_by.bindsN fun _ _ _ _ _ _ us hl => match us, hl with | [_, _], _ => rfl
theorem Txt.F_pushes_by (T : Txt K mg) : FunD K "pushes_by" "pushes_by" (defArgs s_pushes_by) (defBody s_pushes_by) (defScope s_pushes_by) [] [] (He.ga K "pushes_by") (fdAt K (He.ga K "pushes_by")) := T.fn 18 _ rfl
theorem Txt.b_pushes_by (T : Txt K mg) : Binds K (fdAt K (He.ga K "pushes_by")) ["frame", "numbers"] [] := T.F_pushes_by.bindsN fun _ _ _ _ _ _ us hl => match us, hl with | [_, _], _ => rfl
theorem Txt.F_motion_by (T : Txt K mg) : FunD K "motion_by" "motion_by" (defArgs s_motion_by) (defBody s_motion_by) (defScope s_motion_by) [] [] (He.ga K "motion_by") (fdAt K (He.ga K "motion_by")) := T.fn 19 _ rfl
theorem Txt.b_motion_by (T : Txt K mg) : Binds K (fdAt K (He.ga K "motion_by")) ["frame", "numbers"] [] := T.F_motion_by.bindsN fun _ _ _ _ _ _ us hl => match us, hl with | [_, _], _ => rfl
theorem Txt.F_shared_divisor (T : Txt K mg) : FunD K "shared_divisor" "shared_divisor" (defArgs s_shared_divisor) (defBody s_shared_divisor) (defScope s_shared_divisor) [] [] (He.ga K "shared_divisor") (fdAt K (He.ga K "shared_divisor")) := T.fn 20 _ rfl
theorem Txt.b_shared_divisor (T : Txt K mg) : Binds K (fdAt K (He.ga K "shared_divisor")) ["numbers"] [] := T.F_shared_divisor.bindsN fun _ _ _ _ _ _ us hl => match us, hl with | [_], _ => rfl
theorem Txt.F_lowest_row (T : Txt K mg) : FunD K "lowest_row" "lowest_row" (defArgs s_lowest_row) (defBody s_lowest_row) (defScope s_lowest_row) [] [] (He.ga K "lowest_row") (fdAt K (He.ga K "lowest_row")) := T.fn 21 _ rfl
theorem Txt.b_lowest_row (T : Txt K mg) : Binds K (fdAt K (He.ga K "lowest_row")) ["numbers"] [] := T.F_lowest_row.bindsN fun _ _ _ _ _ _ us hl => match us, hl with | [_], _ => rfl
theorem Txt.F_joint_row (T : Txt K mg) : FunD K "joint_row" "joint_row" (defArgs s_joint_row) (defBody s_joint_row) (defScope s_joint_row) [] [] (He.ga K "joint_row") (fdAt K (He.ga K "joint_row")) := T.fn 22 _ rfl
theorem Txt.b_joint_row (T : Txt K mg) : Binds K (fdAt K (He.ga K "joint_row")) ["row", "due", "at", "many"] [] := T.F_joint_row.bindsN fun _ _ _ _ _ _ us hl => match us, hl with | [_, _, _, _], _ => rfl
theorem Txt.F_joint_rows (T : Txt K mg) : FunD K "joint_rows" "joint_rows" (defArgs s_joint_rows) (defBody s_joint_rows) (defScope s_joint_rows) [] [] (He.ga K "joint_rows") (fdAt K (He.ga K "joint_rows")) := T.fn 23 _ rfl
theorem Txt.b_joint_rows (T : Txt K mg) : Binds K (fdAt K (He.ga K "joint_rows")) ["rows", "dues"] [] := T.F_joint_rows.bindsN fun _ _ _ _ _ _ us hl => match us, hl with | [_, _], _ => rfl
theorem Txt.F_cleared_row (T : Txt K mg) : FunD K "cleared_row" "cleared_row" (defArgs s_cleared_row) (defBody s_cleared_row) (defScope s_cleared_row) [] [] (He.ga K "cleared_row") (fdAt K (He.ga K "cleared_row")) := T.fn 24 _ rfl
theorem Txt.b_cleared_row (T : Txt K mg) : Binds K (fdAt K (He.ga K "cleared_row")) ["one", "lead", "column"] [] := T.F_cleared_row.bindsN fun _ _ _ _ _ _ us hl => match us, hl with | [_, _, _], _ => rfl
theorem Txt.F_led_rows (T : Txt K mg) : FunD K "led_rows" "led_rows" (defArgs s_led_rows) (defBody s_led_rows) (defScope s_led_rows) [] [] (He.ga K "led_rows") (fdAt K (He.ga K "led_rows")) := T.fn 25 _ rfl
theorem Txt.b_led_rows (T : Txt K mg) : Binds K (fdAt K (He.ga K "led_rows")) ["joints", "many"] [] := T.F_led_rows.bindsN fun _ _ _ _ _ _ us hl => match us, hl with | [_, _], _ => rfl
theorem Txt.F_parts_of (T : Txt K mg) : FunD K "parts_of" "parts_of" (defArgs s_parts_of) (defBody s_parts_of) (defScope s_parts_of) [] [] (He.ga K "parts_of") (fdAt K (He.ga K "parts_of")) := T.fn 26 _ rfl
theorem Txt.b_parts_of (T : Txt K mg) : Binds K (fdAt K (He.ga K "parts_of")) ["numbers", "bottom"] [] := T.F_parts_of.bindsN fun _ _ _ _ _ _ us hl => match us, hl with | [_, _], _ => rfl
theorem Txt.F_solve_rows (T : Txt K mg) : FunD K "solve_rows" "solve_rows" (defArgs s_solve_rows) (defBody s_solve_rows) (defScope s_solve_rows) [] [] (He.ga K "solve_rows") (fdAt K (He.ga K "solve_rows")) := T.fn 27 _ rfl
theorem Txt.b_solve_rows (T : Txt K mg) : Binds K (fdAt K (He.ga K "solve_rows")) ["rows", "due", "many"] [] := T.F_solve_rows.bindsN fun _ _ _ _ _ _ us hl => match us, hl with | [_, _, _], _ => rfl
theorem Txt.F_column_told (T : Txt K mg) : FunD K "column_told" "column_told" (defArgs s_column_told) (defBody s_column_told) (defScope s_column_told) [] [] (He.ga K "column_told") (fdAt K (He.ga K "column_told")) := T.fn 28 _ rfl
theorem Txt.b_column_told (T : Txt K mg) : Binds K (fdAt K (He.ga K "column_told")) ["frame", "columns", "column"] [] := T.F_column_told.bindsN fun _ _ _ _ _ _ us hl => match us, hl with | [_, _, _], _ => rfl
theorem Txt.F_would_put (T : Txt K mg) : FunD K "would_put" "would_put" (defArgs s_would_put) (defBody s_would_put) (defScope s_would_put) [] [] (He.ga K "would_put") (fdAt K (He.ga K "would_put")) := T.fn 29 _ rfl
theorem Txt.b_would_put (T : Txt K mg) : Binds K (fdAt K (He.ga K "would_put")) ["frame", "name", "one", "other"] [] := T.F_would_put.bindsN fun _ _ _ _ _ _ us hl => match us, hl with | [_, _, _, _], _ => rfl
theorem Txt.F_Hold_ways (T : Txt K mg) : FunD K "ways" "Hold.ways" (defArgs s_Hold_ways) (defBody s_Hold_ways) (defScope s_Hold_ways) [] [] (He.ma K (He.ga K "Hold") "ways") (fdAt K (He.ma K (He.ga K "Hold") "ways")) := T.fn 30 _ rfl
theorem Txt.b_Hold_ways (T : Txt K mg) : Binds K (fdAt K (He.ma K (He.ga K "Hold") "ways")) ["self"] [] := T.F_Hold_ways.bindsN fun _ _ _ _ _ _ us hl => match us, hl with | [_], _ => rfl
theorem Txt.F_Roller_init (T : Txt K mg) : FunD K "__init__" "Roller.__init__" (defArgs s_Roller_init) (defBody s_Roller_init) (defScope s_Roller_init) [] [] (He.ma K (He.ga K "Roller") "__init__") (fdAt K (He.ma K (He.ga K "Roller") "__init__")) := T.fn 31 _ rfl
theorem Txt.b_Roller_init (T : Txt K mg) : Binds K (fdAt K (He.ma K (He.ga K "Roller") "__init__")) ["self", "x", "y"] [] := T.F_Roller_init.bindsN fun _ _ _ _ _ _ us hl => match us, hl with | [_, _, _], _ => rfl
theorem Txt.F_Roller_ways (T : Txt K mg) : FunD K "ways" "Roller.ways" (defArgs s_Roller_ways) (defBody s_Roller_ways) (defScope s_Roller_ways) [] [] (He.ma K (He.ga K "Roller") "ways") (fdAt K (He.ma K (He.ga K "Roller") "ways")) := T.fn 32 _ rfl
theorem Txt.b_Roller_ways (T : Txt K mg) : Binds K (fdAt K (He.ma K (He.ga K "Roller") "ways")) ["self"] [] := T.F_Roller_ways.bindsN fun _ _ _ _ _ _ us hl => match us, hl with | [_], _ => rfl
theorem Txt.F_Fixed_ways (T : Txt K mg) : FunD K "ways" "Fixed.ways" (defArgs s_Fixed_ways) (defBody s_Fixed_ways) (defScope s_Fixed_ways) [] [] (He.ma K (He.ga K "Fixed") "ways") (fdAt K (He.ma K (He.ga K "Fixed") "ways")) := T.fn 33 _ rfl
theorem Txt.b_Fixed_ways (T : Txt K mg) : Binds K (fdAt K (He.ma K (He.ga K "Fixed") "ways")) ["self"] [] := T.F_Fixed_ways.bindsN fun _ _ _ _ _ _ us hl => match us, hl with | [_], _ => rfl
theorem Txt.F_Frame_init (T : Txt K mg) : FunD K "__init__" "Frame.__init__" (defArgs s_Frame_init) (defBody s_Frame_init) (defScope s_Frame_init) [] [] (He.ma K (He.ga K "Frame") "__init__") (fdAt K (He.ma K (He.ga K "Frame") "__init__")) := T.fn 34 _ rfl
theorem Txt.b_Frame_init (T : Txt K mg) : Binds K (fdAt K (He.ma K (He.ga K "Frame") "__init__")) ["self"] [] := T.F_Frame_init.bindsN fun _ _ _ _ _ _ us hl => match us, hl with | [_], _ => rfl
theorem Txt.F_Frame_pin_at (T : Txt K mg) : FunD K "pin_at" "Frame.pin_at" (defArgs s_Frame_pin_at) (defBody s_Frame_pin_at) (defScope s_Frame_pin_at) [] [] (He.ma K (He.ga K "Frame") "pin_at") (fdAt K (He.ma K (He.ga K "Frame") "pin_at")) := T.fn 35 _ rfl
theorem Txt.b_Frame_pin_at (T : Txt K mg) : Binds K (fdAt K (He.ma K (He.ga K "Frame") "pin_at")) ["self", "x", "y"] [] := T.F_Frame_pin_at.bindsN fun _ _ _ _ _ _ us hl => match us, hl with | [_, _, _], _ => rfl
theorem Txt.F_Frame_put_pin (T : Txt K mg) : FunD K "put_pin" "Frame.put_pin" (defArgs s_Frame_put_pin) (defBody s_Frame_put_pin) (defScope s_Frame_put_pin) [.non] [] (He.ma K (He.ga K "Frame") "put_pin") (fdAt K (He.ma K (He.ga K "Frame") "put_pin")) := T.fn 36 _ rfl
theorem Txt.b_Frame_put_pin (T : Txt K mg) : Binds K (fdAt K (He.ma K (He.ga K "Frame") "put_pin")) ["self", "name", "x", "y", "hold"] [] := by
  obtain ⟨ds, v, b⟩ := T.F_Frame_put_pin.binds1 (ps := ["self", "name", "x", "y", "hold"]) 5 1 (by simp) rfl (fun T kV doc pm an cdv ct us its hl hi => match us, hl, its, hi with | [_, _, _, _, _], _, [_], _ => ⟨_, rfl, rfl⟩)
  cases v
  exact b
theorem Txt.F_Frame_ask_bar (T : Txt K mg) : FunD K "ask_bar" "Frame.ask_bar" (defArgs s_Frame_ask_bar) (defBody s_Frame_ask_bar) (defScope s_Frame_ask_bar) [] [] (He.ma K (He.ga K "Frame") "ask_bar") (fdAt K (He.ma K (He.ga K "Frame") "ask_bar")) := T.fn 37 _ rfl
theorem Txt.b_Frame_ask_bar (T : Txt K mg) : Binds K (fdAt K (He.ma K (He.ga K "Frame") "ask_bar")) ["self", "name", "one", "other"] [] := T.F_Frame_ask_bar.bindsN fun _ _ _ _ _ _ us hl => match us, hl with | [_, _, _, _], _ => rfl
theorem Txt.F_Frame_put_bar (T : Txt K mg) : FunD K "put_bar" "Frame.put_bar" (defArgs s_Frame_put_bar) (defBody s_Frame_put_bar) (defScope s_Frame_put_bar) [] [] (He.ma K (He.ga K "Frame") "put_bar") (fdAt K (He.ma K (He.ga K "Frame") "put_bar")) := T.fn 38 _ rfl
theorem Txt.b_Frame_put_bar (T : Txt K mg) : Binds K (fdAt K (He.ma K (He.ga K "Frame") "put_bar")) ["self", "name", "one", "other"] [] := T.F_Frame_put_bar.bindsN fun _ _ _ _ _ _ us hl => match us, hl with | [_, _, _, _], _ => rfl
theorem Txt.F_Frame_pins (T : Txt K mg) : FunD K "pins" "Frame.pins" (defArgs s_Frame_pins) (defBody s_Frame_pins) (defScope s_Frame_pins) [] [] (He.ma K (He.ga K "Frame") "pins") (fdAt K (He.ma K (He.ga K "Frame") "pins")) := T.fn 39 _ rfl
theorem Txt.b_Frame_pins (T : Txt K mg) : Binds K (fdAt K (He.ma K (He.ga K "Frame") "pins")) ["self"] [] := T.F_Frame_pins.bindsN fun _ _ _ _ _ _ us hl => match us, hl with | [_], _ => rfl
theorem Txt.F_Frame_bars (T : Txt K mg) : FunD K "bars" "Frame.bars" (defArgs s_Frame_bars) (defBody s_Frame_bars) (defScope s_Frame_bars) [] [] (He.ma K (He.ga K "Frame") "bars") (fdAt K (He.ma K (He.ga K "Frame") "bars")) := T.fn 40 _ rfl
theorem Txt.b_Frame_bars (T : Txt K mg) : Binds K (fdAt K (He.ma K (He.ga K "Frame") "bars")) ["self"] [] := T.F_Frame_bars.bindsN fun _ _ _ _ _ _ us hl => match us, hl with | [_], _ => rfl
theorem Txt.F_Frame_place (T : Txt K mg) : FunD K "place" "Frame.place" (defArgs s_Frame_place) (defBody s_Frame_place) (defScope s_Frame_place) [] [] (He.ma K (He.ga K "Frame") "place") (fdAt K (He.ma K (He.ga K "Frame") "place")) := T.fn 41 _ rfl
theorem Txt.b_Frame_place (T : Txt K mg) : Binds K (fdAt K (He.ma K (He.ga K "Frame") "place")) ["self", "pin"] [] := T.F_Frame_place.bindsN fun _ _ _ _ _ _ us hl => match us, hl with | [_, _], _ => rfl
theorem Txt.F_Frame_ways (T : Txt K mg) : FunD K "ways" "Frame.ways" (defArgs s_Frame_ways) (defBody s_Frame_ways) (defScope s_Frame_ways) [] [] (He.ma K (He.ga K "Frame") "ways") (fdAt K (He.ma K (He.ga K "Frame") "ways")) := T.fn 42 _ rfl
theorem Txt.b_Frame_ways (T : Txt K mg) : Binds K (fdAt K (He.ma K (He.ga K "Frame") "ways")) ["self", "pin"] [] := T.F_Frame_ways.bindsN fun _ _ _ _ _ _ us hl => match us, hl with | [_, _], _ => rfl
theorem Txt.F_Frame_ends (T : Txt K mg) : FunD K "ends" "Frame.ends" (defArgs s_Frame_ends) (defBody s_Frame_ends) (defScope s_Frame_ends) [] [] (He.ma K (He.ga K "Frame") "ends") (fdAt K (He.ma K (He.ga K "Frame") "ends")) := T.fn 43 _ rfl
theorem Txt.b_Frame_ends (T : Txt K mg) : Binds K (fdAt K (He.ma K (He.ga K "Frame") "ends")) ["self", "bar"] [] := T.F_Frame_ends.bindsN fun _ _ _ _ _ _ us hl => match us, hl with | [_, _], _ => rfl
theorem Txt.F_law_cell_at (T : Txt K mg) : FunD K "_law_cell_at" "_law_cell_at" (defArgs s_law_cell_at) (defBody s_law_cell_at) (defScope s_law_cell_at) [] [] (He.ga K "_law_cell_at") (fdAt K (He.ga K "_law_cell_at")) := T.fn 44 _ rfl
theorem Txt.b_law_cell_at (T : Txt K mg) : Binds K (fdAt K (He.ga K "_law_cell_at")) ["_law_script", "_law_k"] [] := T.F_law_cell_at.bindsN fun _ _ _ _ _ _ us hl => match us, hl with | [_, _], _ => rfl
theorem Txt.F_law_field (T : Txt K mg) : FunD K "_law_field" "_law_field" (defArgs s_law_field) (defBody s_law_field) (defScope s_law_field) [] [] (He.ga K "_law_field") (fdAt K (He.ga K "_law_field")) := T.fn 45 _ rfl
theorem Txt.b_law_field (T : Txt K mg) : Binds K (fdAt K (He.ga K "_law_field")) ["_law_cell", "_law_prime", "_law_many"] [] := T.F_law_field.bindsN fun _ _ _ _ _ _ us hl => match us, hl with | [_, _, _], _ => rfl
theorem Txt.F_law_lowest (T : Txt K mg) : FunD K "_law_lowest" "_law_lowest" (defArgs s_law_lowest) (defBody s_law_lowest) (defScope s_law_lowest) [] [] (He.ga K "_law_lowest") (fdAt K (He.ga K "_law_lowest")) := T.fn 46 _ rfl
theorem Txt.b_law_lowest (T : Txt K mg) : Binds K (fdAt K (He.ga K "_law_lowest")) ["_law_top", "_law_bottom"] [] := T.F_law_lowest.bindsN fun _ _ _ _ _ _ us hl => match us, hl with | [_, _], _ => rfl
theorem Txt.F_law_sum (T : Txt K mg) : FunD K "_law_sum" "_law_sum" (defArgs s_law_sum) (defBody s_law_sum) (defScope s_law_sum) [] [] (He.ga K "_law_sum") (fdAt K (He.ga K "_law_sum")) := T.fn 47 _ rfl
theorem Txt.b_law_sum (T : Txt K mg) : Binds K (fdAt K (He.ga K "_law_sum")) ["_law_one", "_law_other"] [] := T.F_law_sum.bindsN fun _ _ _ _ _ _ us hl => match us, hl with | [_, _], _ => rfl
theorem Txt.F_law_times (T : Txt K mg) : FunD K "_law_times" "_law_times" (defArgs s_law_times) (defBody s_law_times) (defScope s_law_times) [] [] (He.ga K "_law_times") (fdAt K (He.ga K "_law_times")) := T.fn 48 _ rfl
theorem Txt.b_law_times (T : Txt K mg) : Binds K (fdAt K (He.ga K "_law_times")) ["_law_one", "_law_other"] [] := T.F_law_times.bindsN fun _ _ _ _ _ _ us hl => match us, hl with | [_, _], _ => rfl
theorem Txt.F_law_turned (T : Txt K mg) : FunD K "_law_turned" "_law_turned" (defArgs s_law_turned) (defBody s_law_turned) (defScope s_law_turned) [] [] (He.ga K "_law_turned") (fdAt K (He.ga K "_law_turned")) := T.fn 49 _ rfl
theorem Txt.b_law_turned (T : Txt K mg) : Binds K (fdAt K (He.ga K "_law_turned")) ["_law_one"] [] := T.F_law_turned.bindsN fun _ _ _ _ _ _ us hl => match us, hl with | [_], _ => rfl
theorem Txt.F_law_name (T : Txt K mg) : FunD K "_law_name" "_law_name" (defArgs s_law_name) (defBody s_law_name) (defScope s_law_name) [] [] (He.ga K "_law_name") (fdAt K (He.ga K "_law_name")) := T.fn 50 _ rfl
theorem Txt.b_law_name (T : Txt K mg) : Binds K (fdAt K (He.ga K "_law_name")) ["_law_cell", "_law_k"] [] := T.F_law_name.bindsN fun _ _ _ _ _ _ us hl => match us, hl with | [_, _], _ => rfl
theorem Txt.F_law_spot (T : Txt K mg) : FunD K "_law_spot" "_law_spot" (defArgs s_law_spot) (defBody s_law_spot) (defScope s_law_spot) [] [] (He.ga K "_law_spot") (fdAt K (He.ga K "_law_spot")) := T.fn 51 _ rfl
theorem Txt.b_law_spot (T : Txt K mg) : Binds K (fdAt K (He.ga K "_law_spot")) ["_law_cell", "_law_kind"] [] := T.F_law_spot.bindsN fun _ _ _ _ _ _ us hl => match us, hl with | [_, _], _ => rfl
theorem Txt.F_law_ways (T : Txt K mg) : FunD K "_law_ways" "_law_ways" (defArgs s_law_ways) (defBody s_law_ways) (defScope s_law_ways) [] [] (He.ga K "_law_ways") (fdAt K (He.ga K "_law_ways")) := T.fn 52 _ rfl
theorem Txt.b_law_ways (T : Txt K mg) : Binds K (fdAt K (He.ga K "_law_ways")) ["_law_cell"] [] := T.F_law_ways.bindsN fun _ _ _ _ _ _ us hl => match us, hl with | [_], _ => rfl
theorem Txt.F_law_pins (T : Txt K mg) : FunD K "_law_pins" "_law_pins" (defArgs s_law_pins) (defBody s_law_pins) (defScope s_law_pins) [] [] (He.ga K "_law_pins") (fdAt K (He.ga K "_law_pins")) := T.fn 53 _ rfl
theorem Txt.b_law_pins (T : Txt K mg) : Binds K (fdAt K (He.ga K "_law_pins")) ["_law_script"] [] := T.F_law_pins.bindsN fun _ _ _ _ _ _ us hl => match us, hl with | [_], _ => rfl
theorem Txt.F_law_bars (T : Txt K mg) : FunD K "_law_bars" "_law_bars" (defArgs s_law_bars) (defBody s_law_bars) (defScope s_law_bars) [] [] (He.ga K "_law_bars") (fdAt K (He.ga K "_law_bars")) := T.fn 54 _ rfl
theorem Txt.b_law_bars (T : Txt K mg) : Binds K (fdAt K (He.ga K "_law_bars")) ["_law_script", "_law_pins_here"] [] := T.F_law_bars.bindsN fun _ _ _ _ _ _ us hl => match us, hl with | [_, _], _ => rfl
theorem Txt.F_law_frame (T : Txt K mg) : FunD K "_law_frame" "_law_frame" (defArgs s_law_frame) (defBody s_law_frame) (defScope s_law_frame) [] [] (He.ga K "_law_frame") (fdAt K (He.ga K "_law_frame")) := T.fn 55 _ rfl
theorem Txt.b_law_frame (T : Txt K mg) : Binds K (fdAt K (He.ga K "_law_frame")) ["_law_pins_here", "_law_bars_here"] [] := T.F_law_frame.bindsN fun _ _ _ _ _ _ us hl => match us, hl with | [_, _], _ => rfl
theorem Txt.F_law_arm (T : Txt K mg) : FunD K "_law_arm" "_law_arm" (defArgs s_law_arm) (defBody s_law_arm) (defScope s_law_arm) [] [] (He.ga K "_law_arm") (fdAt K (He.ga K "_law_arm")) := T.fn 56 _ rfl
theorem Txt.b_law_arm (T : Txt K mg) : Binds K (fdAt K (He.ga K "_law_arm")) ["_law_pins_here", "_law_bar", "_law_axis"] [] := T.F_law_arm.bindsN fun _ _ _ _ _ _ us hl => match us, hl with | [_, _, _], _ => rfl
theorem Txt.F_law_add (T : Txt K mg) : FunD K "_law_add" "_law_add" (defArgs s_law_add) (defBody s_law_add) (defScope s_law_add) [] [] (He.ga K "_law_add") (fdAt K (He.ga K "_law_add")) := T.fn 57 _ rfl
theorem Txt.b_law_add (T : Txt K mg) : Binds K (fdAt K (He.ga K "_law_add")) ["_law_found", "_law_k", "_law_axis", "_law_draw"] [] := T.F_law_add.bindsN fun _ _ _ _ _ _ us hl => match us, hl with | [_, _, _, _], _ => rfl
theorem Txt.F_law_forces (T : Txt K mg) : FunD K "_law_forces" "_law_forces" (defArgs s_law_forces) (defBody s_law_forces) (defScope s_law_forces) [] [] (He.ga K "_law_forces") (fdAt K (He.ga K "_law_forces")) := T.fn 58 _ rfl
theorem Txt.b_law_forces (T : Txt K mg) : Binds K (fdAt K (He.ga K "_law_forces")) ["_law_pins_here", "_law_bars_here", "_law_pulls", "_law_pushes"] [] := T.F_law_forces.bindsN fun _ _ _ _ _ _ us hl => match us, hl with | [_, _, _, _], _ => rfl
theorem Txt.F_law_number (T : Txt K mg) : FunD K "_law_number" "_law_number" (defArgs s_law_number) (defBody s_law_number) (defScope s_law_number) [] [] (He.ga K "_law_number") (fdAt K (He.ga K "_law_number")) := T.fn 59 _ rfl
theorem Txt.b_law_number (T : Txt K mg) : Binds K (fdAt K (He.ga K "_law_number")) ["_law_x"] [] := T.F_law_number.bindsN fun _ _ _ _ _ _ us hl => match us, hl with | [_], _ => rfl
theorem Txt.F_law_are_forces (T : Txt K mg) : FunD K "_law_are_forces" "_law_are_forces" (defArgs s_law_are_forces) (defBody s_law_are_forces) (defScope s_law_are_forces) [] [] (He.ga K "_law_are_forces") (fdAt K (He.ga K "_law_are_forces")) := T.fn 60 _ rfl
theorem Txt.b_law_are_forces (T : Txt K mg) : Binds K (fdAt K (He.ga K "_law_are_forces")) ["_law_pins_here", "_law_bars_here", "_law_pulls", "_law_pushes"] [] := T.F_law_are_forces.bindsN fun _ _ _ _ _ _ us hl => match us, hl with | [_, _, _, _], _ => rfl
theorem Txt.F_law_is_motion (T : Txt K mg) : FunD K "_law_is_motion" "_law_is_motion" (defArgs s_law_is_motion) (defBody s_law_is_motion) (defScope s_law_is_motion) [] [] (He.ga K "_law_is_motion") (fdAt K (He.ga K "_law_is_motion")) := T.fn 61 _ rfl
theorem Txt.b_law_is_motion (T : Txt K mg) : Binds K (fdAt K (He.ga K "_law_is_motion")) ["_law_pins_here", "_law_motion"] [] := T.F_law_is_motion.bindsN fun _ _ _ _ _ _ us hl => match us, hl with | [_, _], _ => rfl
theorem Txt.F_law_at_rest (T : Txt K mg) : FunD K "_law_at_rest" "_law_at_rest" (defArgs s_law_at_rest) (defBody s_law_at_rest) (defScope s_law_at_rest) [] [] (He.ga K "_law_at_rest") (fdAt K (He.ga K "_law_at_rest")) := T.fn 62 _ rfl
theorem Txt.b_law_at_rest (T : Txt K mg) : Binds K (fdAt K (He.ga K "_law_at_rest")) ["_law_pins_here", "_law_bars_here", "_law_pulls", "_law_pushes", "_law_load"] [] := T.F_law_at_rest.bindsN fun _ _ _ _ _ _ us hl => match us, hl with | [_, _, _, _, _], _ => rfl
theorem Txt.F_law_dot (T : Txt K mg) : FunD K "_law_dot" "_law_dot" (defArgs s_law_dot) (defBody s_law_dot) (defScope s_law_dot) [] [] (He.ga K "_law_dot") (fdAt K (He.ga K "_law_dot")) := T.fn 63 _ rfl
theorem Txt.b_law_dot (T : Txt K mg) : Binds K (fdAt K (He.ga K "_law_dot")) ["_law_one", "_law_other"] [] := T.F_law_dot.bindsN fun _ _ _ _ _ _ us hl => match us, hl with | [_, _], _ => rfl
theorem Txt.F_law_longer (T : Txt K mg) : FunD K "_law_longer" "_law_longer" (defArgs s_law_longer) (defBody s_law_longer) (defScope s_law_longer) [] [] (He.ga K "_law_longer") (fdAt K (He.ga K "_law_longer")) := T.fn 64 _ rfl
theorem Txt.b_law_longer (T : Txt K mg) : Binds K (fdAt K (He.ga K "_law_longer")) ["_law_pins_here", "_law_bar", "_law_motion"] [] := T.F_law_longer.bindsN fun _ _ _ _ _ _ us hl => match us, hl with | [_, _, _], _ => rfl
theorem Txt.F_law_keeps (T : Txt K mg) : FunD K "_law_keeps" "_law_keeps" (defArgs s_law_keeps) (defBody s_law_keeps) (defScope s_law_keeps) [] [] (He.ga K "_law_keeps") (fdAt K (He.ga K "_law_keeps")) := T.fn 65 _ rfl
theorem Txt.b_law_keeps (T : Txt K mg) : Binds K (fdAt K (He.ga K "_law_keeps")) ["_law_pins_here", "_law_motion"] [] := T.F_law_keeps.bindsN fun _ _ _ _ _ _ us hl => match us, hl with | [_, _], _ => rfl
theorem Txt.F_law_asked (T : Txt K mg) : FunD K "_law_asked" "_law_asked" (defArgs s_law_asked) (defBody s_law_asked) (defScope s_law_asked) [] [] (He.ga K "_law_asked") (fdAt K (He.ga K "_law_asked")) := T.fn 66 _ rfl
theorem Txt.b_law_asked (T : Txt K mg) : Binds K (fdAt K (He.ga K "_law_asked")) ["_law_frame_here", "_law_new_here"] [] := T.F_law_asked.bindsN fun _ _ _ _ _ _ us hl => match us, hl with | [_, _], _ => rfl
theorem Txt.F_law_new (T : Txt K mg) : FunD K "_law_new" "_law_new" (defArgs s_law_new) (defBody s_law_new) (defScope s_law_new) [] [] (He.ga K "_law_new") (fdAt K (He.ga K "_law_new")) := T.fn 67 _ rfl
theorem Txt.b_law_new (T : Txt K mg) : Binds K (fdAt K (He.ga K "_law_new")) ["_law_script", "_law_pins_here", "_law_bars_here"] [] := T.F_law_new.bindsN fun _ _ _ _ _ _ us hl => match us, hl with | [_, _, _], _ => rfl
theorem Txt.F_law_right (T : Txt K mg) : FunD K "_law_right" "_law_right" (defArgs s_law_right) (defBody s_law_right) (defScope s_law_right) [] [] (He.ga K "_law_right") (fdAt K (He.ga K "_law_right")) := T.fn 68 _ rfl
theorem Txt.b_law_right (T : Txt K mg) : Binds K (fdAt K (He.ga K "_law_right")) ["_law_pins_here", "_law_bars_here", "_law_new_here", "_law_ends", "_law_told"] [] := T.F_law_right.bindsN fun _ _ _ _ _ _ us hl => match us, hl with | [_, _, _, _, _], _ => rfl
theorem Txt.F_law_full (T : Txt K mg) : FunD K "_law_full" "_law_full" (defArgs s_law_full) (defBody s_law_full) (defScope s_law_full) [] [] (He.ga K "_law_full") (fdAt K (He.ga K "_law_full")) := T.fn 69 _ rfl
theorem Txt.b_law_full (T : Txt K mg) : Binds K (fdAt K (He.ga K "_law_full")) ["_law_frame_here", "_law_pins_here", "_law_bars_here", "_law_new_here", "_law_ends"] [] := T.F_law_full.bindsN fun _ _ _ _ _ _ us hl => match us, hl with | [_, _, _, _, _], _ => rfl
theorem Txt.F_law (T : Txt K mg) : FunD K "law" "law" (defArgs s_law) (defBody s_law) (defScope s_law) [] [] (He.ga K "law") (fdAt K (He.ga K "law")) := T.fn 70 _ rfl
theorem Txt.b_law (T : Txt K mg) : Binds K (fdAt K (He.ga K "law")) ["_law_script"] [] := T.F_law.bindsN fun _ _ _ _ _ _ us hl => match us, hl with | [_], _ => rfl
end
end Ty
set_option Elab.async false
set_option linter.all false
set_option maxRecDepth 100000
set_option maxHeartbeats 4000000
/-! The top of the module run by the kernel, with what is looked at behind it. It stands early in the joined text: it wants memory. -/
namespace Ty
open PySem PySem.Spec PyProof.Rows L2
/-! ### checks of the written part -/
def mnB (K : PySem.W.Frag) (C : Addr) : Bool := PySem.W.makesIn K C && (He.eqO (PySem.W.findIn K (.ref C) "__init__") (some (some (.builtin "object.__init__"))) && PySem.W.keepIn K (.ref C))
def oexO (C : Addr) : Option Obj → Bool
  | some ⟨.type t, _, .cls cd, sl⟩ => decide (t = "type") && (cd.hasDict && (!cd.hasDel && ((match cd.mro with | .ref C' :: bm => decide (C' = C) && PySem.HandSPX.refsVE bm | _ => false) && (match sl.toList with | [_, _, _, _, some (.builtin n), _] => decide (n = "ValueError.__new__") | _ => false))))
  | _ => false
def oexB (K : PySem.W.Frag) (C : Addr) : Bool := oexO C (K.lookup C) && (He.eqO (PySem.W.findIn K (.ref C) "__setattr__") (some (some (.builtin "object.__setattr__"))) && (decide (PySem.W.subIn K (.ref C) (.type "BaseException") = some true) && (decide (PySem.W.typeIn K (.ref C) = some (.type "type")) && PySem.W.keepIn K (.ref C))))
def errB (K : PySem.W.Frag) (C f : Str) : Bool := oexB K (He.ga K C) && (He.eqO (PySem.W.findIn K (.ref (He.ga K C)) "__init__") (some (some (.ref (He.ma K (He.ga K C) "__init__")))) && (decide (PySem.W.typeIn K (.ref (He.ma K (He.ga K C) "__init__")) = some (.type "function")) && (He.eqO (PySem.W.findIn K (.ref (He.ga K C)) f) (some none) && xfB K (He.ga K C))))
def yeB (K : PySem.W.Frag) (Y : Addr) : Bool := PySem.W.readsIn K Y (.type "type") && (He.eqO (PySem.W.specialIn K (.ref Y) "__getattribute__") (some (some (.builtin "type.__getattribute__"))) && (match PySem.W.findCls K (.ref Y) (.type "type") "__init__" with
  | some (.val (.builtin n)) => decide (n = "ValueError.__init__")
  | _ => false))
def exqC (K : PySem.W.Frag) (D : Addr) : Bool := He.eqO (PySem.W.findIn K (.ref D) "__getattribute__") (some (some (.builtin "BaseException.__getattribute__"))) && (He.eqO (PySem.W.findIn K (.ref D) "__getattr__") (some none) && (decide (PySem.W.subIn K (.ref D) (.type "BaseException") = some true) && (PySem.W.hasDictIn K D && (He.eqO (PySem.W.findIn K (.ref D) "__class__") (some (some (.builtin "object.__class__"))) && (He.eqO (PySem.W.specialIn K (.builtin "object.__class__") "__get__") (some (some (.builtin "getset_descriptor.__get__"))) && (decide (PySem.W.takesIn K (.builtin "object.__class__") = some true) && decide (PySem.W.mroIn K D (.type "object") = some true)))))))
def errsT : List Str := ["BarThere", "NoPin", "NoLength", "TooMany"]
def pairB (f : Str → Str → Bool) : Bool := errsT.all fun x => errsT.all fun y => f x y
def exqB (K : PySem.W.Frag) : Bool := errB K "BarThere" "bar" && (errB K "NoPin" "pin" && (errB K "NoLength" "bar" && (yeB K (He.ga K "YardError") && (PySem.W.excIn K (He.ga K "TooMany") [.type "ValueError", .type "Exception", .type "BaseException", .type "object"] "ValueError.__new__" && (PySem.W.keepIn K (.ref (He.ga K "TooMany")) && (decide (PySem.W.subIn K (.ref (He.ga K "TooMany")) (.type "BaseException") = some true) && (decide (PySem.W.typeIn K (.ref (He.ga K "TooMany")) = some (.type "type")) && ((errsT.all fun x => exqC K (He.ga K x)) && (pairB (fun x y => decide (PySem.W.exmOne K (.ref (He.ga K x)) (.ref (He.ga K y)) = some (decide (x = y)))) && (pairB (fun x y => decide (PySem.W.kitOne K (.ref (He.ga K x)) (.ref (He.ga K y)) = some (decide (x = y)))) && (errsT.all fun x => decide (PySem.W.kitOne K (.ref (He.ga K x)) (.ref (He.ga K "YardError")) = some true))))))))))))
def seerB (K : PySem.W.Frag) : Bool := (K.lookup cStatics).isSome && ((K.lookup sysModules).isSome && ((K.lookup builtinsNs).isSome && ((K.lookup mainGlobals).isSome && (K.lookup (He.ga K "__builtins__")).isSome)))
/-! ### names, facts -/

def nms0 : List PySem.Str := [("_wall" : PySem.Str), ("YardError" : PySem.Str), ("NoNumber" : PySem.Str), ("NoWay" : PySem.Str), ("PinThere" : PySem.Str), ("SpotTaken" : PySem.Str), ("NoPin" : PySem.Str), ("BarThere" : PySem.Str), ("NoBar" : PySem.Str), ("NoLength" : PySem.Str), ("TooMany" : PySem.Str), ("is_whole" : PySem.Str), ("shared_part" : PySem.Str), ("ratio_of" : PySem.Str), ("difference_of" : PySem.Str), ("arm_of" : PySem.Str), ("NOUGHT_equations" : PySem.Str), ("turned_about" : PySem.Str), ("pairs_of" : PySem.Str), ("column_by" : PySem.Str), ("way_columns" : PySem.Str), ("bar_column" : PySem.Str), ("bar_columns" : PySem.Str), ("rows_by" : PySem.Str), ("pushes_by" : PySem.Str), ("motion_by" : PySem.Str), ("NOUGHT_solving" : PySem.Str), ("shared_divisor" : PySem.Str), ("lowest_row" : PySem.Str), ("joint_row" : PySem.Str), ("joint_rows" : PySem.Str), ("cleared_row" : PySem.Str), ("led_rows" : PySem.Str), ("parts_of" : PySem.Str), ("solve_rows" : PySem.Str)]
def nms1 : List PySem.Str := [("ONE" : PySem.Str), ("column_told" : PySem.Str), ("would_put" : PySem.Str), ("Hold" : PySem.Str), ("Roller" : PySem.Str), ("Fixed" : PySem.Str), ("MOST_PINS" : PySem.Str), ("MOST_BARS" : PySem.Str), ("Frame" : PySem.Str), ("_law_cell_at" : PySem.Str), ("_law_field" : PySem.Str), ("_law_lowest" : PySem.Str), ("_law_sum" : PySem.Str), ("_law_times" : PySem.Str), ("_law_turned" : PySem.Str), ("_law_name" : PySem.Str), ("_law_spot" : PySem.Str), ("_law_ways" : PySem.Str), ("_law_pins" : PySem.Str), ("_law_bars" : PySem.Str), ("_law_frame" : PySem.Str), ("_law_arm" : PySem.Str), ("_law_add" : PySem.Str), ("_law_forces" : PySem.Str), ("_law_number" : PySem.Str), ("_law_are_forces" : PySem.Str), ("_law_is_motion" : PySem.Str), ("_law_at_rest" : PySem.Str), ("_law_dot" : PySem.Str), ("_law_longer" : PySem.Str), ("_law_keeps" : PySem.Str), ("_law_asked" : PySem.Str), ("_law_new" : PySem.Str), ("_law_right" : PySem.Str), ("_law_full" : PySem.Str)]
def nms : List PySem.Str := nms0 ++ nms1
def fas : List He.Fa := [.int "MOST_PINS" 24,
  .int "MOST_BARS" 60,
  .cls "Hold",
  .cls "Roller",
  .cls "Fixed",
  .cls "Frame",
  .noat "Frame" "spots",
  .noat "Frame" "kept",
  .noat "Frame" "joints",
  .noat "Roller" "across",
  .noat "Roller" "upward",
  .meth "Hold" "ways",
  .meth "Roller" "ways",
  .meth "Fixed" "ways",
  .meth "Frame" "pin_at",
  .meth "Frame" "put_pin",
  .meth "Frame" "ask_bar",
  .meth "Frame" "put_bar",
  .meth "Frame" "pins",
  .meth "Frame" "bars",
  .meth "Frame" "place",
  .meth "Frame" "ways",
  .meth "Frame" "ends",
  .mkr "Frame",
  .mkr "Roller",
  .glo "__builtins__"]
def fac : List He.Fa := fas ++ (gnames.map He.Fa.glo ++ fnames.map He.Fa.free)
def exB (K : PySem.W.Frag) : Bool := He.tupB K "NOUGHT_equations" [.int 0, .int 1] && (He.tupB K "NOUGHT_solving" [.int 0, .int 1] && (He.tupB K "ONE" [.int 1, .int 1] && (mnB K (He.ga K "Hold") && (mnB K (He.ga K "Fixed") && (exqB K && seerB K)))))
/-! ### what the run looks at -/
def asY (g : Addr → Option Obj) : List Addr := He.asD g 5 ++ [cStatics, sysModules]
abbrev AlY : Type := He.AlD × Bool
def obsK (K : PySem.W.Frag) : AlY := (He.obsD fac dfs K, exB K)
def obsY (g : Addr → Option Obj) : AlY := obsK (He.frG g (asY g))
def hookY : PySem.W.Hook where
  α := AlY
  obs := fun s => obsY s.heap.get?
  val := fun _ => (He.valD dfs, true)
  says := fun _ h => ∃ K : PySem.W.Frag, K.In h ∧ He.SaysD fac dfs K ∧ exB K = true
  of := fun _ _ e => ⟨_, He.frG_in, congrArg (fun z : AlY => z.1) e, congrArg (fun z : AlY => z.2) e⟩
  keeps := fun _ _ _ ⟨K, hK, c⟩ k => ⟨K, PySem.W.Frag.In.keeps hK k, c⟩
def obT (s : PySem.W.SharedT) : AlY := obsY (HandSHeadRun.getT s)
theorem obT_eq (s : PySem.W.SharedT) : obT s = hookY.obs s.abs := by
  have e : HandSHeadRun.getT s = s.abs.heap.get? := funext (HandSHeadRun.getT_eq s)
  unfold obT
  rw [e] <;> rfl
abbrev rowR : PySem.W.OpenRow := PySem.W.OpenLaw.row PySem.Challenge.rw_trussyard_k51_a_bar_put
theorem head_run (w : World) : HandSHeadRun.RunEq rowR (PySem.W.view rowR.prog [79]) hookY obT 6000 nms w := by
  intro os
  kernel_rfl
end Ty
set_option Elab.async false
set_option linter.all false
set_option maxRecDepth 100000
set_option maxHeartbeats 4000000
/-! What the built-in calls and operators are worth, on data. -/
namespace Ty
open PySem PySem.Spec PyProof.Rows L2
theorem sizeOk {n : Nat} (h : n ≤ 100000) : n ≤ sizeLine := by rw [sizeLine_eq]; omega
def sysOf (K : PySem.W.Frag) : Sys := ⟨K, He.ga K "Frame"⟩
/-- what holds of the program and the base heap -/
structure Bas (Pr : Program) (base : Heap) : Prop where
  ns : base.NoSeer
  tr : Pr.given.tree = none
theorem see_cx {CX : CXT} {Pr : Program} {w : World} {K : PySem.W.Frag} {mg : Str → Option Value} {base : Heap} {N ps : List Str} {qual : Str} {scope : Scope} {f : Addr} {cdv : Value} {A : Around} {outer : List Env} {s : Shared} {H : Hp} {E : XK} {k : Nat}
    (B : Bas Pr base) (sc : FnScope N ps scope) (hr : Room k (A.deeper (envOfC qual scope s.heap.objs.size f cdv))) (hk : 32 ≤ k) : SeeX (cxOf CX Pr w K mg base N qual scope f cdv A outer s H E).nox :=
  ⟨⟨_, _, rfl, sc.gen, sc.co, rfl, rfl⟩, B.ns, B.tr, by
    have h := hr.dp
    show (A.deeper (envOfC qual scope s.heap.objs.size f cdv)).depth + 100 < recursionLimit
    omega⟩
theorem hu65 {k : Nat} {A : Around} (hr : Room k A) : A.units + 65 < cLine := by
  have := hr.un
  omega
section
variable {S : Sys} {te ta tb tc : TE} {G : Gam} {d x y z : Dat}
theorem rc_now {r : List V → Hp → VK → Prop} {xs : List Dat} (h : ∀ H1 H vs, Same H1 H → DtA S H1 vs xs → ∀ Q : VK, (∀ w, Dt S H1 w z → Q w H) → r vs H Q) : RcD S r xs z := fun H1 H vs e a Q q =>
  h H1 H vs e a Q fun w dw => q H1 H w (Step.refl e) dw
/-! isinstance of built-in types -/
def tyD : Dat → Option String
  | .non => some "NoneType"
  | .bl _ => some "bool"
  | .int _ => some "int"
  | .str _ => some "str"
  | .lst _ => some "list"
  | .tup _ => some "tuple"
  | .dK _ => some "dict"
  | _ => none
theorem tyD_ok {H1 H : Hp} {v : V} {n : String} (e : Same H1 H) (h : Dt S H1 v x) (hx : tyD x = some n) : TyX S.K H v (.type n) := by
  cases h with
  | non => cases hx; exact .base .non
  | bl b => cases hx; exact .base (.bl b)
  | int i => cases hx; exact .base (.int i)
  | str z => cases hx; exact .base (.str z)
  | lst a _ => cases hx; exact .base (.lst (e _ _ a))
  | tup a _ =>
    cases hx
    rcases sqT_mono e a with (q | ⟨o, q⟩) | ⟨o, its, m, q, c, _⟩
    · exact .base (.tup q)
    · exact .fTuple q
    · exact .kTuple q c
  | dK a _ => cases hx; exact .base (.dK (e _ _ a))
  | _ => cases hx
theorem rc_isi {n m : String} {b : Bool} (hx : tyD x = some n) (hb : kitB n m = some b := by decide +kernel) : RcD S (rIsi S.K) [x, .ty m] (.bl b) := rc_now fun H1 H vs e a Q q => by
  cases a with
  | cons h1 t =>
    cases t with
    | cons h2 t =>
      cases t
      cases h2
      exact ⟨_, _, .type n, .type m, b, rfl, .ty m, tyD_ok e h1 hx, kit_ty hb, q _ (.bl b)⟩
/-! len, abs, min, list, all -/
theorem rc_abs {i : Int} : RcD S (fun xs H Q => ∃ i : Int, xs = [V.int i] ∧ Q (.int (if i < 0 then -i else i)) H) [.int i] (.int (i.natAbs : Int)) := rc_now fun H1 H vs e a Q q => by
  cases a with
  | cons h1 t =>
    cases t
    cases h1
    refine ⟨i, rfl, ?_⟩
    have : (if i < 0 then -i else i) = (i.natAbs : Int) := by split <;> omega
    rw [this]
    exact q _ (.int _)
theorem rc_lenL {ds : List Dat} : RcD S (fun xs H Q => ∃ p ys, xs = [V.ref p] ∧ (SqL S.K H p ys ∨ SqT S.K H p ys) ∧ Q (.int ys.length) H) [.lst ds] (.int (ds.length : Int)) := rc_now fun H1 H vs e a Q q => by
  cases a with
  | cons h1 t =>
    cases t
    cases h1 with
    | lst ha hd => exact ⟨_, _, rfl, .inl (SqL.of (e _ _ ha)), q _ (by rw [hd.length]; exact .int _)⟩
theorem rc_lenScr {ns : List Int} : RcD S (fun xs H Q => ∃ p ys, xs = [V.ref p] ∧ (SqL S.K H p ys ∨ SqT S.K H p ys) ∧ Q (.int ys.length) H) [.scr ns] (.int (ns.length : Int)) := rc_now fun H1 H vs e a Q q => by
  cases a with
  | cons h1 t =>
    cases t
    cases h1 with
    | scr ha => exact ⟨_, _, rfl, .inl (e.seq ha), q _ (by rw [List.length_map]; exact .int _)⟩
theorem rc_lenT {ds : List Dat} : RcD S (fun xs H Q => ∃ p ys, xs = [V.ref p] ∧ (SqL S.K H p ys ∨ SqT S.K H p ys) ∧ Q (.int ys.length) H) [.tup ds] (.int (ds.length : Int)) := rc_now fun H1 H vs e a Q q => by
  cases a with
  | cons h1 t =>
    cases t
    cases h1 with
    | tup ha hd => exact ⟨_, _, rfl, .inr (sqT_mono e ha), q _ (by rw [hd.length]; exact .int _)⟩
theorem rc_lenD {ds : List (Key × Dat)} : RcD S (fun xs H Q => ∃ a kvs, xs = [V.ref a] ∧ H a = some (.dK kvs) ∧ Q (.int kvs.length) H) [.dK ds] (.int (ds.length : Int)) := rc_now fun H1 H vs e a Q q => by
  cases a with
  | cons h1 t =>
    cases t
    cases h1 with
    | dK ha hd => exact ⟨_, _, rfl, e _ _ ha, q _ (by rw [hd.length]; exact .int _)⟩
theorem rc_min2 {i j : Int} : RcD S (fun xs H Q => ∃ i j : Int, xs = [V.int i, .int j] ∧ Q (.int (if j < i then j else i)) H) [.int i, .int j] (.int (min i j)) := rc_now fun H1 H vs e a Q q => by
  cases a with
  | cons h1 t =>
    cases t with
    | cons h2 t =>
      cases t
      cases h1
      cases h2
      refine ⟨i, j, rfl, ?_⟩
      have : (if j < i then j else i) = min i j := by split <;> omega
      rw [this]
      exact q _ (.int _)
/-- a new list of the same items -/
theorem rc_list {ds : List Dat} : RcD S (fun xs H Q => ∃ p ys, xs = [V.ref p] ∧ (SqL S.K H p ys ∨ SqT S.K H p ys) ∧ ∀ l, H l = none → Q (.ref l) (upd H l (.lst ys))) [.lst ds] (.lst ds) := fun H1 H vs e a Q q => by
  cases a with
  | cons h1 t =>
    cases t
    cases h1 with
    | lst ha hd => exact ⟨_, _, rfl, .inl (SqL.of (e _ _ ha)), fun l hl => q _ _ _ (Step.new e hl) (.lst upd_same (hd.mono (same_new (e.free hl))))⟩
def keyD : Key → Dat
  | .inl i => .int i
  | .inr x => .str x
theorem keyD_ok {H : Hp} : ∀ (k : Key), Dt S H (kV k) (keyD k)
  | .inl i => .int i
  | .inr x => .str x
theorem keysD_ok {H : Hp} : ∀ {xs : List (Key × V)} {ds : List (Key × Dat)}, DtK S H xs ds → ∀ H', DtA S H' (xs.map fun kv => kV kv.1) (ds.map fun kv => keyD kv.1)
  | _, _, .nil, _ => .nil
  | _, _, .cons (k := k) h t, H' => .cons (keyD_ok k) (keysD_ok t H')
theorem rc_listD {ds : List (Key × Dat)} : RcD S rListD [.dK ds] (.lst (ds.map fun kv => keyD kv.1)) := fun H1 H vs e a Q q => by
  cases a with
  | cons h1 t =>
    cases t
    cases h1 with
    | dK ha hd => exact ⟨_, _, rfl, e _ _ ha, fun l hl => q _ _ _ (Step.new e hl) (.lst upd_same (keysD_ok hd _))⟩
theorem rc_all {bs : List Bool} : RcD S (rAll S.K) [.lst (bs.map Dat.bl)] (.bl (bs.all id)) := rc_now fun H1 H vs e a Q q => by
  cases a with
  | cons h1 t =>
    cases t
    cases h1 with
    | lst ha hd =>
      rw [hd.bls] at ha
      exact ⟨_, bs, rfl, SqL.of (e _ _ ha), q _ (.bl _)⟩
theorem rc_str {i : Int} (h : i.natAbs < 2 ^ 1000) : RcD S (fun xs H Q => ∃ i : Int, xs = [V.int i] ∧ i.natAbs.log2 < 1920 ∧ Q (.str (toString i)) H) [.int i] (.str (toString i)) := rc_now fun H1 H vs e a Q q => by
  cases a with
  | cons h1 t =>
    cases t
    cases h1
    exact ⟨i, rfl, Nat.lt_of_lt_of_le (PySem.Flt.log2_lt_of (by decide) h) (by decide), q _ (.str _)⟩
/-! comparisons of data -/
mutual
def toPy : Dat → Option PyData
  | .non => some .none
  | .bl b => some (.bool b)
  | .int i => some (.int i)
  | .str x => some (.str x)
  | .lst ds => (toPys ds).map .list
  | .tup ds => (toPys ds).map .tuple
  | _ => none
def toPys : List Dat → Option (List PyData)
  | [] => some []
  | d :: ds => match toPy d, toPys ds with
    | some p, some ps => some (p :: ps)
    | _, _ => none
end
mutual
theorem toDp {H1 H : Hp} (e : Same H1 H) : ∀ (d : Dat) (p : PyData) (v : V), toPy d = some p → Dt S H1 v d → Dp S.K H v p
  | .non, p, v, hp, h => by simp [toPy] at hp; subst hp; cases h; exact .non
  | .bl b, p, v, hp, h => by simp [toPy] at hp; subst hp; cases h; exact .bl _
  | .int i, p, v, hp, h => by simp [toPy] at hp; subst hp; cases h; exact .int _
  | .str i, p, v, hp, h => by simp [toPy] at hp; subst hp; cases h; exact .str _
  | .lst ds, p, v, hp, h => by
    simp [toPy] at hp
    obtain ⟨ps, h1, rfl⟩ := hp
    cases h with
    | lst ha hd => exact .lst (SqL.of (e _ _ ha)) (toDps e ds ps _ h1 hd)
  | .tup ds, p, v, hp, h => by
    simp [toPy] at hp
    obtain ⟨ps, h1, rfl⟩ := hp
    cases h with
    | tup ha hd => exact .tup (sqT_mono e ha) (toDps e ds ps _ h1 hd)
  | .dK _, p, v, hp, h => by simp [toPy] at hp
  | .dT _, p, v, hp, h => by simp [toPy] at hp
  | .scr _, p, v, hp, h => by simp [toPy] at hp
  | .frm _, p, v, hp, h => by simp [toPy] at hp
  | .ty _, p, v, hp, h => by simp [toPy] at hp
  | .kt _, p, v, hp, h => by simp [toPy] at hp
  | .ptr _, p, v, hp, h => by simp [toPy] at hp
theorem toDps {H1 H : Hp} (e : Same H1 H) : ∀ (ds : List Dat) (ps : List PyData) (vs : List V), toPys ds = some ps → DtA S H1 vs ds → DpAll S.K H vs ps
  | [], ps, vs, hp, h => by simp [toPys] at hp; subst hp; cases h; exact .nil
  | d :: ds, ps, vs, hp, h => by
    unfold toPys at hp
    cases h with
    | cons h1 h2 =>
      cases e1 : toPy d with
      | none => rw [e1] at hp; cases hp
      | some p =>
        cases e2 : toPys ds with
        | none => rw [e1, e2] at hp; cases hp
        | some qs =>
          rw [e1, e2] at hp
          cases hp
          exact .cons (toDp e d p _ e1 h1) (toDps e ds qs _ e2 h2)
end
theorem rv_eqD {p q : PyData} (hx : toPy x = some p) (hy : toPy y = some q) (sp : SeqAt.shaped p = true) (sq : SeqAt.shaped q = true) : RvD S (rEqD S.K) x y (.bl (PyData.eqv p q)) := rv_now fun H1 H u v e a b Q k =>
  ⟨p, q, toDp e x p u hx a, toDp e y q v hy b, sp, sq, k _ (.bl _)⟩
theorem rv_neD {p q : PyData} (hx : toPy x = some p) (hy : toPy y = some q) (sp : SeqAt.shaped p = true) (sq : SeqAt.shaped q = true) : RvD S (rNeD S.K) x y (.bl (!PyData.eqv p q)) := rv_now fun H1 H u v e a b Q k =>
  ⟨p, q, toDp e x p u hx a, toDp e y q v hy b, sp, sq, k _ (.bl _)⟩
end
end Ty
set_option Elab.async false
set_option linter.all false
set_option maxRecDepth 100000
set_option maxHeartbeats 4000000
/-! Numbers: the program's and the law's own. -/
namespace Ty
open PySem PySem.Spec PyProof.Rows L2
section
variable {S : Sys} {i j : Int} {x y : Str}
theorem rv_eqI : RvD S rEq (.int i) (.int j) (.bl (decide (i = j))) := by
  have h : decide (V.int i = V.int j) = decide (i = j) := by rw [Bool.eq_iff_iff]; simp
  rw [← h]
  exact rv_eq rfl rfl rfl
theorem rv_neI : RvD S rNe (.int i) (.int j) (.bl (decide (i ≠ j))) := by
  have h : (!decide (V.int i = V.int j)) = decide (i ≠ j) := by rw [Bool.eq_iff_iff]; simp
  rw [← h]
  exact rv_ne rfl rfl rfl
theorem rv_eqS : RvD S rEq (.str x) (.str y) (.bl (decide (x = y))) := by
  have h : decide (V.str x = V.str y) = decide (x = y) := by rw [Bool.eq_iff_iff]; simp
  rw [← h]
  exact rv_eq rfl rfl rfl
theorem rv_neS : RvD S rNe (.str x) (.str y) (.bl (decide (x ≠ y))) := by
  have h : (!decide (V.str x = V.str y)) = decide (x ≠ y) := by rw [Bool.eq_iff_iff]; simp
  rw [← h]
  exact rv_ne rfl rfl rfl
theorem rv_lt : RvD S (rI0 fun i j => .bl (decide (i < j))) (.int i) (.int j) (.bl (decide (i < j))) := rv_B0 (g := fun i j => decide (i < j))
theorem rv_gt : RvD S (rI0 fun i j => .bl (decide (j < i))) (.int i) (.int j) (.bl (decide (j < i))) := rv_B0 (g := fun i j => decide (j < i))
theorem rv_ge : RvD S (rI0 fun i j => .bl (decide (j ≤ i))) (.int i) (.int j) (.bl (decide (j ≤ i))) := rv_B0 (g := fun i j => decide (j ≤ i))
theorem rv_add : RvD S (rI0 fun i j => .int (i + j)) (.int i) (.int j) (.int (i + j)) := rv_I0 (g := fun i j => i + j)
theorem rv_sub : RvD S (rI0 fun i j => .int (i - j)) (.int i) (.int j) (.int (i - j)) := rv_I0 (g := fun i j => i - j)
theorem rv_mul (h : CMulX i j) : RvD S (rI CMulX fun i j => .int (i * j)) (.int i) (.int j) (.int (i * j)) := rv_I (g := fun i j => i * j) h
theorem rv_div (h : j ≠ 0 ∧ j ∣ i) : RvD S (rI (fun i j => j ≠ 0 ∧ j ∣ i) fun i j => .int (i / j)) (.int i) (.int j) (.int (i / j)) := rv_I (g := fun i j => i / j) h
theorem rv_mod (h : 0 < j) : RvD S (rI (fun _ j => 0 < j) fun i j => .int (i % j)) (.int i) (.int j) (.int (i % j)) := rv_I (C := fun _ j => 0 < j) (g := fun i j => i % j) h
end
/-- the size of a number -/
def Sz (n : Nat) (q : Num) : Prop := q.1.natAbs < 2 ^ n ∧ q.2.natAbs < 2 ^ n
def lineB : Nat := 134217728
theorem mulOk {i j : Int} {a b : Nat} (ha : i.natAbs < 2 ^ a) (hb : j.natAbs < 2 ^ b) (h : a + b ≤ 134217728) : CMulX i j := mulx_ok ha hb h
/-! the mirror -/
def ratioOf (t b : Int) : Num := if b < 0 then (t / (0 - (Int.gcd t b : Int)), b / (0 - (Int.gcd t b : Int))) else (t / (Int.gcd t b : Int), b / (Int.gcd t b : Int))
def diffOf (p q : Num) : Num := ratioOf (p.1 * q.2 - q.1 * p.2) (p.2 * q.2)
def turnOf (p : Num) : Num := diffOf (0, 1) p
def lowOf (t b : Int) : Num := (t / (Int.gcd t b : Int), b / (Int.gcd t b : Int))
def sumL (p q : Num) : Num := (p.1 * q.2 + q.1 * p.2, p.2 * q.2)
def timesL (p q : Num) : Num := (p.1 * q.1, p.2 * q.2)
def turnL (p : Num) : Num := (0 - p.1, p.2)
def fieldL (c p m : Int) : Int := (c % p + 11) * 48271 % p % m
section
variable {Pr : Program} {w : World} {K : PySem.W.Frag} {mg : Str → Option Value} {base : Heap}
def R_is_whole (ds : List Dat) (d : Dat) : Prop := ∃ i : Int, ds = [.int i] ∧ d = .bl true
theorem ok_is_whole (T : Txt K mg) (B : Bas Pr base) : FnOk Pr w K mg base CX0 40 (He.ga K "is_whole") (fdAt K (He.ga K "is_whole")) ["thing"] (spF (sysOf K) R_is_whole) := by
  refine pure_ok (S := sysOf K) (k := 39) T.F_is_whole sc_is_whole (fun ds d h => ?_) (fun cdv A outer s H E hr => ?_)
  · obtain ⟨i, rfl, _⟩ := h
    rfl
  · refine ⟨_, (pss_one (ps_ret (pe_and (pe_callB call_isi (by rfl) T.n_isinstance (by decide +kernel) (pa_cons (pv 0) (pa_cons (pe_bltn (v := .ty "int") (u := .type "int") rfl T.n_int (by decide +kernel) rfl) pa_nil))) (pe_one (pe_not (pe_callB call_isi (by rfl) T.n_isinstance (by decide +kernel) (pa_cons (pv 0) (pa_cons (pe_bltn (v := .ty "bool") (u := .type "bool") rfl T.n_bool (by decide +kernel) rfl) pa_nil)))))))), fun ds d h => ?_⟩
    obtain ⟨i, rfl, rfl⟩ := h
    exact rd_ret (ed_andV (ed_cb (ea_cons (ed_var rfl) (ea_cons ed_ty ea_nil)) (rc_isi (b := true) rfl)) fun _ => ed_notV (ed_cb (ea_cons (ed_var rfl) (ea_cons ed_ty ea_nil)) (rc_isi (b := false) rfl))) (.inl rfl)
/-- the turns of a gcd -/
def GcdI (g : Nat) (m : Nat) (G : Gam) (h : Int → Int → Gam) : Prop := ∃ a b : Nat, G = h a b ∧ Nat.gcd a b = g ∧ m = b
def R_shared_part (ds : List Dat) (d : Dat) : Prop := ∃ a b : Int, ds = [.int a, .int b] ∧ d = .int (Int.gcd a b : Int)
theorem ok_shared_part (T : Txt K mg) (B : Bas Pr base) : FnOk Pr w K mg base CX0 40 (He.ga K "shared_part") (fdAt K (He.ga K "shared_part")) ["one", "other"] (spF (sysOf K) R_shared_part) := by
  refine pure_ok (S := sysOf K) (k := 39) T.F_shared_part sc_shared_part (fun ds d h => ?_) (fun cdv A outer s H E hr => ?_)
  · obtain ⟨a, b, rfl, _⟩ := h
    rfl
  · refine ⟨_, (pss_cons (ps_set (i := 0) (sc_shared_part).nd rfl (Or.inl rfl) (pe_callB call_abs (by rfl) T.n_abs (by decide +kernel) (pa_cons (pv 0) pa_nil))) (pss_cons (ps_set (i := 1) (sc_shared_part).nd rfl (Or.inl rfl) (pe_callB call_abs (by rfl) T.n_abs (by decide +kernel) (pa_cons (pv 1) pa_nil))) (pss_cons (ps_while PassesOwn.never (pt_cmpR op_ne (pv 1) pe_int (nomark _)) (pss_one (ps_par (i := 0) (j := 1) (by rfl) (sc_shared_part).nd rfl rfl (by decide) rfl rfl (pa_cons (pv 1) (pa_cons (pe_op op_mod (pv 0) (pv 1)) pa_nil)) (by rfl)))) (pss_one (ps_ret (pv 0)))))), fun ds d h => ?_⟩
    obtain ⟨a, b, rfl, rfl⟩ := h
    refine rd_seq (rd_set (ed_cb (ea_cons (ed_var rfl) ea_nil) rc_abs) ?_)
    refine rd_seq (rd_set (ed_cb (ea_cons (ed_var rfl) ea_nil) rc_abs) ?_)
    refine rd_seq (rd_while (fun m G => ∃ x y : Nat, G = [some (.int x), some (.int y)] ∧ Nat.gcd x y = Int.gcd a b ∧ m = y) b.natAbs ⟨a.natAbs, b.natAbs, rfl, rfl, rfl⟩ ?_)
    rintro m _ ⟨x, y, rfl, hg, hm⟩
    refine ⟨decide ((y : Int) ≠ 0), et_test (ed_op (ed_var rfl) ed_int rv_neI), fun hb => ?_, fun hb => ?_⟩
    · have hy : (y : Int) ≠ 0 := of_decide_eq_true hb
      refine rd_par (ea_cons (ed_var rfl) (ea_cons (ed_op (ed_var rfl) (ed_var rfl) (rv_mod (by omega))) ea_nil)) ?_
      refine ⟨x % y, by rw [hm]; exact Nat.mod_lt _ (by omega), y, x % y, by simp, ?_, rfl⟩
      rw [← hg, Nat.gcd_comm y (x % y), ← Nat.gcd_rec, Nat.gcd_comm]
    · have hy : (y : Int) = 0 := by simpa using of_decide_eq_false hb
      have hy : y = 0 := by omega
      subst hy
      refine rd_ret (ed_var rfl) (.inl ?_)
      rw [← hg, Nat.gcd_zero_right]
def R_ratio_of (ds : List Dat) (d : Dat) : Prop := ∃ a b : Int, ds = [.int a, .int b] ∧ b ≠ 0 ∧ d = num (ratioOf a b)
theorem gcd_dvd (a b : Int) : (Int.gcd a b : Int) ∣ a ∧ (Int.gcd a b : Int) ∣ b := ⟨Int.gcd_dvd_left .., Int.gcd_dvd_right ..⟩
theorem gcd_ne {a b : Int} (h : b ≠ 0) : (Int.gcd a b : Int) ≠ 0 := by
  intro z
  have : Int.gcd a b = 0 := by omega
  exact h (Int.gcd_eq_zero_iff.mp this).2
theorem ok_ratio_of (T : Txt K mg) (B : Bas Pr base) : FnOk Pr w K mg base CX0 41 (He.ga K "ratio_of") (fdAt K (He.ga K "ratio_of")) ["top", "bottom"] (spF (sysOf K) R_ratio_of) := by
  refine pure_ok (S := sysOf K) (k := 40) T.F_ratio_of sc_ratio_of (fun ds d h => ?_) (fun cdv A outer s H E hr => ?_)
  · obtain ⟨a, b, rfl, _⟩ := h
    rfl
  · have Z := see_cx (CX := CX0) (Pr := Pr) (w := w) (K := K) (mg := mg) (outer := outer) (H := H) (E := E) B sc_ratio_of hr (by decide)
    refine ⟨_, (pss_cons (ps_if (PW.pt (pw_or (pt_not (pt_val (pe_call (ok_is_whole T B) (hr.mono (by decide)) rfl T.g_is_whole T.F_is_whole.kp T.b_is_whole .nil pass0 (pa_cons (pv 0) pa_nil)))) (pw_or (pt_not (pt_val (pe_call (ok_is_whole T B) (hr.mono (by decide)) rfl T.g_is_whole T.F_is_whole.kp T.b_is_whole .nil pass0 (pa_cons (pv 1) pa_nil)))) (pw_or1 (pt_cmpR op_eq (pv 1) pe_int (nomark _)))))) (pss_one ps_never) pss_nil) (pss_cons (ps_set (i := 2) (sc_ratio_of).nd rfl (Or.inl rfl) (pe_call (ok_shared_part T B) (hr.mono (by decide)) rfl T.g_shared_part T.F_shared_part.kp T.b_shared_part .nil pass0 (pa_cons (pv 0) (pa_cons (pv 1) pa_nil)))) (pss_cons (ps_if (pt_cmpR op_lt (pv 1) pe_int (nomark _)) (pss_one (ps_set (i := 2) (sc_ratio_of).nd rfl (Or.inl rfl) (pe_op op_sub pe_int (pv 2)))) pss_nil) (pss_one (ps_ret (pe_tup (pa_cons (pe_op (op_divX Z) (pv 0) (pv 2)) (pa_cons (pe_op (op_divX Z) (pv 1) (pv 2)) pa_nil)))))))), fun ds d h => ?_⟩
    obtain ⟨a, b, rfl, hb, rfl⟩ := h
    have hw : ∀ (i : Nat) (c : Int) (G : Gam), G[i]? = some (some (.int c)) → EvD (sysOf K) (tCall (spF (sysOf K) R_is_whole) [] E0 (tCons (tVar i) tNil)) G (.bl true) := fun i c G h => ed_call (ea_cons (ed_var h) ea_nil) ⟨c, rfl, rfl⟩
    refine rd_seq (rd_if (b := false) ((et_or (a := false) (et_not (et_B (hw 0 a _ rfl))) fun _ => et_or (a := false) (et_not (et_B (hw 1 b _ rfl))) fun _ => et_test (ed_op (ed_var rfl) ed_int rv_eqI)).to ?_) (fun h => by cases h) fun _ => rd_next ?_)
    · simp [hb]
    refine rd_seq (rd_set (ed_call (ea_cons (ed_var rfl) (ea_cons (ed_var rfl) ea_nil)) ⟨a, b, rfl, rfl⟩) ?_)
    obtain ⟨d1, d2⟩ := gcd_dvd a b
    have hg := gcd_ne (a := a) hb
    refine rd_seq (rd_if (et_test (ed_op (ed_var rfl) ed_int rv_lt)) (fun h => ?_) fun h => ?_)
    · have hb0 : b < 0 := of_decide_eq_true h
      refine rd_set (ed_op ed_int (ed_var rfl) rv_sub) ?_
      refine rd_ret (ed_tup (ea_cons (ed_op (ed_var rfl) (ed_var rfl) (rv_div ⟨by omega, ?_⟩)) (ea_cons (ed_op (ed_var rfl) (ed_var rfl) (rv_div ⟨by omega, ?_⟩)) ea_nil))) (.inl ?_)
      · rw [Int.zero_sub]; exact (Int.neg_dvd).mpr d1
      · rw [Int.zero_sub]; exact (Int.neg_dvd).mpr d2
      · unfold ratioOf
        rw [if_pos hb0]
        rfl
    · have hb0 : ¬ b < 0 := of_decide_eq_false h
      refine rd_next ?_
      refine rd_ret (ed_tup (ea_cons (ed_op (ed_var rfl) (ed_var rfl) (rv_div ⟨hg, d1⟩)) (ea_cons (ed_op (ed_var rfl) (ed_var rfl) (rv_div ⟨hg, d2⟩)) ea_nil))) (.inl ?_)
      unfold ratioOf
      rw [if_neg hb0]
      rfl
end
end Ty
set_option Elab.async false
set_option linter.all false
set_option maxRecDepth 100000
set_option maxHeartbeats 4000000
/-! Numbers, further. -/
namespace Ty
open PySem PySem.Spec PyProof.Rows L2
def numPy (q : Num) : PyData := .tuple [.int q.1, .int q.2]
theorem toPy_num (q : Num) : toPy (num q) = some (numPy q) := by simp [num, toPy, toPys, numPy]
theorem shaped_num (q : Num) : SeqAt.shaped (numPy q) = true := by
  unfold numPy SeqAt.shaped
  simp [PyData.canLay0, PyData.canLayAll0, PyData.depth, PyData.depthAll]
theorem eqv_num (p q : Num) : PyData.eqv (numPy p) (numPy q) = decide (p = q) := by
  obtain ⟨a, b⟩ := p
  obtain ⟨c, d⟩ := q
  simp [numPy, PyData.eqv, PyData.eqvAll, Bool.beq_eq_decide_eq]
section
variable {S : Sys} {p q : Num} {te tf : TE} {G : Gam}
theorem rv_eqN : RvD S (rEqD S.K) (num p) (num q) (.bl (decide (p = q))) := by
  rw [← eqv_num]
  exact rv_eqD (toPy_num p) (toPy_num q) (shaped_num p) (shaped_num q)
/-- top, bottom of a number -/
theorem ed_n0 (h : EvD S te G (num q)) : EvD S (tOp (rIxT S.K) te (tC (.int 0))) G (.int q.1) := ed_op h ed_int (rv_ixT (ds := [.int q.1, .int q.2]) rfl)
theorem ed_n1 (h : EvD S te G (num q)) : EvD S (tOp (rIxT S.K) te (tC (.int 1))) G (.int q.2) := ed_op h ed_int (rv_ixT (ds := [.int q.1, .int q.2]) rfl)
theorem ed_num (h : EvD S te G (.int q.1)) (h2 : EvD S tf G (.int q.2)) : EvD S (tTup (tCons te (tCons tf tNil))) G (num q) := ed_tup (ea_cons h (ea_cons h2 ea_nil))
end
theorem sz_mul {a b : Int} {n m : Nat} (ha : a.natAbs < 2 ^ n) (hb : b.natAbs < 2 ^ m) : (a * b).natAbs < 2 ^ (n + m) := wide_lt ha hb
theorem sz_add {a b : Int} {n m : Nat} (ha : a.natAbs < 2 ^ n) (hb : b.natAbs < 2 ^ m) : (a + b).natAbs < 2 ^ (max n m + 1) := by
  have h1 : (2 : Nat) ^ n ≤ 2 ^ max n m := Nat.pow_le_pow_right (by decide) (by omega)
  have h2 : (2 : Nat) ^ m ≤ 2 ^ max n m := Nat.pow_le_pow_right (by decide) (by omega)
  have h3 : (2 : Nat) ^ (max n m + 1) = 2 ^ max n m * 2 := Nat.pow_succ ..
  omega
theorem sz_neg {a : Int} {n : Nat} (ha : a.natAbs < 2 ^ n) : (0 - a).natAbs < 2 ^ n := by omega
theorem sz_le {a : Int} {n m : Nat} (ha : a.natAbs < 2 ^ n) (h : n ≤ m) : a.natAbs < 2 ^ m := Nat.lt_of_lt_of_le ha (Nat.pow_le_pow_right (by decide) h)
theorem Sz.le {q : Num} {n m : Nat} (h : Sz n q) (l : n ≤ m) : Sz m q := ⟨sz_le h.1 l, sz_le h.2 l⟩
theorem sz_div {a g : Int} {n : Nat} (ha : a.natAbs < 2 ^ n) : (a / g).natAbs < 2 ^ n := by
  refine Nat.lt_of_le_of_lt ?_ ha
  exact Int.natAbs_ediv_le_natAbs a g
theorem sz_ratio {a b : Int} {n : Nat} (ha : a.natAbs < 2 ^ n) (hb : b.natAbs < 2 ^ n) : Sz n (ratioOf a b) := by
  unfold ratioOf
  split
  · exact ⟨sz_div ha, sz_div hb⟩
  · exact ⟨sz_div ha, sz_div hb⟩
theorem sz_sum {p q : Num} {n m : Nat} (hp : Sz n p) (hq : Sz m q) : Sz (n + m + 1) (sumL p q) := by
  refine ⟨?_, sz_le (sz_mul hp.2 hq.2) (by omega)⟩
  have h := sz_add (sz_mul hp.1 hq.2) (sz_mul hq.1 hp.2)
  exact sz_le h (by omega)
theorem sz_times {p q : Num} {n m : Nat} (hp : Sz n p) (hq : Sz m q) : Sz (n + m) (timesL p q) := ⟨sz_mul hp.1 hq.1, sz_mul hp.2 hq.2⟩
theorem sz_turnL {p : Num} {n : Nat} (hp : Sz n p) : Sz n (turnL p) := ⟨sz_neg hp.1, hp.2⟩
theorem sz_diff {p q : Num} {n m : Nat} (hp : Sz n p) (hq : Sz m q) : Sz (n + m + 1) (diffOf p q) := by
  refine sz_ratio ?_ (sz_le (sz_mul hp.2 hq.2) (by omega))
  have h := sz_add (sz_mul hp.1 hq.2) (sz_neg (sz_mul hq.1 hp.2))
  have e : p.1 * q.2 + (0 - q.1 * p.2) = p.1 * q.2 - q.1 * p.2 := by omega
  rw [e] at h
  exact sz_le h (by omega)
theorem sz_one : Sz 1 (1, 1) := ⟨by decide, by decide⟩
theorem sz_nought : Sz 1 (0, 1) := ⟨by decide, by decide⟩
section
variable {Pr : Program} {w : World} {K : PySem.W.Frag} {mg : Str → Option Value} {base : Heap}
def R_difference_of (ds : List Dat) (d : Dat) : Prop := ∃ (p q : Num) (n m : Nat), ds = [num p, num q] ∧ p.2 ≠ 0 ∧ q.2 ≠ 0 ∧ Sz n p ∧ Sz m q ∧ n + m ≤ 134217728 ∧ d = num (diffOf p q)
theorem ok_difference_of (T : Txt K mg) (B : Bas Pr base) : FnOk Pr w K mg base CX0 42 (He.ga K "difference_of") (fdAt K (He.ga K "difference_of")) ["one", "other"] (spF (sysOf K) R_difference_of) := by
  refine pure_ok (S := sysOf K) (k := 41) T.F_difference_of sc_difference_of (fun ds d h => ?_) (fun cdv A outer s H E hr => ?_)
  · obtain ⟨p, q, n, m, rfl, _⟩ := h
    rfl
  · refine ⟨_, (pss_one (ps_ret (pe_call (ok_ratio_of T B) (hr.mono (by decide)) rfl T.g_ratio_of T.F_ratio_of.kp T.b_ratio_of .nil pass0 (pa_cons (pe_op op_sub (pe_op op_mulX (pe_ix ix_tup (pv 0) pe_int (fun _ _ => rfl)) (pe_ix ix_tup (pv 1) pe_int (fun _ _ => rfl))) (pe_op op_mulX (pe_ix ix_tup (pv 1) pe_int (fun _ _ => rfl)) (pe_ix ix_tup (pv 0) pe_int (fun _ _ => rfl)))) (pa_cons (pe_op op_mulX (pe_ix ix_tup (pv 0) pe_int (fun _ _ => rfl)) (pe_ix ix_tup (pv 1) pe_int (fun _ _ => rfl))) pa_nil))))), fun ds d h => ?_⟩
    obtain ⟨p, q, n, m, rfl, hp, hq, sp, sq, l, rfl⟩ := h
    refine rd_ret (ed_call (ea_cons (ed_op (ed_op (ed_n0 (ed_var rfl)) (ed_n1 (ed_var rfl)) (rv_mul (mulOk sp.1 sq.2 l))) (ed_op (ed_n0 (ed_var rfl)) (ed_n1 (ed_var rfl)) (rv_mul (mulOk sq.1 sp.2 (by omega)))) rv_sub)
      (ea_cons (ed_op (ed_n1 (ed_var rfl)) (ed_n1 (ed_var rfl)) (rv_mul (mulOk sp.2 sq.2 l))) ea_nil)) ⟨_, _, rfl, Int.mul_ne_zero hp hq, rfl⟩) (.inl rfl)
def R_turned_about (ds : List Dat) (d : Dat) : Prop := ∃ (p : Num) (n : Nat), ds = [num p] ∧ p.2 ≠ 0 ∧ Sz n p ∧ n + 1 ≤ 134217728 ∧ d = num (turnOf p)
theorem ed_NE {G : Gam} (T : Txt K mg) : EvD (sysOf K) (tC (.ref (He.ga K "NOUGHT_equations"))) G (num (0, 1)) := ed_c fun H => .tup (T.t_NE H) (.cons (.int 0) (.cons (.int 1) .nil))
theorem ed_NS {G : Gam} (T : Txt K mg) : EvD (sysOf K) (tC (.ref (He.ga K "NOUGHT_solving"))) G (num (0, 1)) := ed_c fun H => .tup (T.t_NS H) (.cons (.int 0) (.cons (.int 1) .nil))
theorem ed_ONE {G : Gam} (T : Txt K mg) : EvD (sysOf K) (tC (.ref (He.ga K "ONE"))) G (num (1, 1)) := ed_c fun H => .tup (T.t_ONE H) (.cons (.int 1) (.cons (.int 1) .nil))
theorem ok_turned_about (T : Txt K mg) (B : Bas Pr base) : FnOk Pr w K mg base CX0 43 (He.ga K "turned_about") (fdAt K (He.ga K "turned_about")) ["one"] (spF (sysOf K) R_turned_about) := by
  refine pure_ok (S := sysOf K) (k := 42) T.F_turned_about sc_turned_about (fun ds d h => ?_) (fun cdv A outer s H E hr => ?_)
  · obtain ⟨p, n, rfl, _⟩ := h
    rfl
  · refine ⟨_, (pss_one (ps_ret (pe_call (ok_difference_of T B) (hr.mono (by decide)) rfl T.g_difference_of T.F_difference_of.kp T.b_difference_of .nil pass0 (pa_cons (pe_glob (v := .ref _) rfl T.g_NOUGHT_equations rfl) (pa_cons (pv 0) pa_nil))))), fun ds d h => ?_⟩
    obtain ⟨p, n, rfl, hp, sp, l, rfl⟩ := h
    exact rd_ret (ed_call (ea_cons (ed_NE T) (ea_cons (ed_var rfl) ea_nil)) ⟨(0, 1), p, 1, n, rfl, by decide, hp, sz_nought, sp, by omega, rfl⟩) (.inl rfl)
/-! the law's own -/
def R_law_field (ds : List Dat) (d : Dat) : Prop := ∃ c p m : Int, ds = [.int c, .int p, .int m] ∧ 0 < p ∧ p < 1073741824 ∧ 0 < m ∧ d = .int (fieldL c p m)
theorem ok_law_field (T : Txt K mg) (B : Bas Pr base) : FnOk Pr w K mg base CX0 40 (He.ga K "_law_field") (fdAt K (He.ga K "_law_field")) ["_law_cell", "_law_prime", "_law_many"] (spF (sysOf K) R_law_field) := by
  refine pure_ok (S := sysOf K) (k := 39) T.F_law_field sc_law_field (fun ds d h => ?_) (fun cdv A outer s H E hr => ?_)
  · obtain ⟨c, p, m, rfl, _⟩ := h
    rfl
  · refine ⟨_, (pss_one (ps_ret (pe_op op_mod (pe_op op_mod (pe_op op_mulX (pe_op op_add (pe_op op_mod (pv 0) (pv 1)) pe_int) pe_int) (pv 1)) (pv 2)))), fun ds d h => ?_⟩
    obtain ⟨c, p, m, rfl, hp, hp2, hm, rfl⟩ := h
    have h1 := Int.emod_nonneg c (show p ≠ 0 by omega)
    have h2 := Int.emod_lt_of_pos c hp
    refine rd_ret (ed_op (ed_op (ed_op (ed_op (ed_op (ed_var rfl) (ed_var rfl) (rv_mod hp)) ed_int rv_add) ed_int (rv_mul (mulOk (a := 40) (b := 40) ?_ (by decide) (by decide)))) (ed_var rfl) (rv_mod hp)) (ed_var rfl) (rv_mod hm)) (.inl rfl)
    omega
def R_law_lowest (ds : List Dat) (d : Dat) : Prop := ∃ t b : Int, ds = [.int t, .int b] ∧ 0 < b ∧ d = num (lowOf t b)
theorem ok_law_lowest (T : Txt K mg) (B : Bas Pr base) : FnOk Pr w K mg base CX0 40 (He.ga K "_law_lowest") (fdAt K (He.ga K "_law_lowest")) ["_law_top", "_law_bottom"] (spF (sysOf K) R_law_lowest) := by
  refine pure_ok (S := sysOf K) (k := 39) T.F_law_lowest sc_law_lowest (fun ds d h => ?_) (fun cdv A outer s H E hr => ?_)
  · obtain ⟨t, b, rfl, _⟩ := h
    rfl
  · have Z := see_cx (CX := CX0) (Pr := Pr) (w := w) (K := K) (mg := mg) (outer := outer) (H := H) (E := E) B sc_law_lowest hr (by decide)
    refine ⟨_, (pss_cons (ps_set (i := 2) (sc_law_lowest).nd rfl (Or.inl rfl) (pe_callB call_abs (by rfl) T.n_abs (by decide +kernel) (pa_cons (pv 0) pa_nil))) (pss_cons (ps_set (i := 3) (sc_law_lowest).nd rfl (Or.inl rfl) (pv 1)) (pss_cons (ps_while PassesOwn.never (pt_cmpR op_ne (pv 3) pe_int (nomark _)) (pss_one (ps_par (i := 2) (j := 3) (by rfl) (sc_law_lowest).nd rfl rfl (by decide) rfl rfl (pa_cons (pv 3) (pa_cons (pe_op op_mod (pv 2) (pv 3)) pa_nil)) (by rfl)))) (pss_one (ps_ret (pe_tup (pa_cons (pe_op (op_divX Z) (pv 0) (pv 2)) (pa_cons (pe_op (op_divX Z) (pv 1) (pv 2)) pa_nil)))))))), fun ds d h => ?_⟩
    obtain ⟨t, b, rfl, hb, rfl⟩ := h
    refine rd_seq (rd_set (ed_cb (ea_cons (ed_var rfl) ea_nil) rc_abs) ?_)
    refine rd_seq (rd_set (ed_var rfl) ?_)
    refine rd_seq (rd_while (fun m G => ∃ x y : Nat, G = [some (.int t), some (.int b), some (.int x), some (.int y)] ∧ Nat.gcd x y = Int.gcd t b ∧ m = y) b.natAbs ⟨t.natAbs, b.natAbs, ?_, rfl, rfl⟩ ?_)
    · rw [Int.natAbs_of_nonneg (by omega : 0 ≤ b)]
      rfl
    rintro m _ ⟨x, y, rfl, hg, hm⟩
    refine ⟨decide ((y : Int) ≠ 0), et_test (ed_op (ed_var rfl) ed_int rv_neI), fun hb => ?_, fun hb => ?_⟩
    · have hy : (y : Int) ≠ 0 := of_decide_eq_true hb
      refine rd_par (ea_cons (ed_var rfl) (ea_cons (ed_op (ed_var rfl) (ed_var rfl) (rv_mod (by omega))) ea_nil)) ?_
      refine ⟨x % y, by rw [hm]; exact Nat.mod_lt _ (by omega), y, x % y, by simp, ?_, rfl⟩
      rw [← hg, Nat.gcd_comm y (x % y), ← Nat.gcd_rec, Nat.gcd_comm]
    · have hy : (y : Int) = 0 := by simpa using of_decide_eq_false hb
      have hy : y = 0 := by omega
      subst hy
      rw [Nat.gcd_zero_right] at hg
      subst hg
      obtain ⟨d1, d2⟩ := gcd_dvd t b
      have hg := gcd_ne (a := t) (b := b) (by omega)
      exact rd_ret (ed_num (q := lowOf t b) (ed_op (ed_var rfl) (ed_var rfl) (rv_div ⟨hg, d1⟩)) (ed_op (ed_var rfl) (ed_var rfl) (rv_div ⟨hg, d2⟩))) (.inl rfl)
def R_law_sum (ds : List Dat) (d : Dat) : Prop := ∃ (p q : Num) (n m : Nat), ds = [num p, num q] ∧ Sz n p ∧ Sz m q ∧ n + m ≤ 134217728 ∧ d = num (sumL p q)
theorem ok_law_sum (T : Txt K mg) (B : Bas Pr base) : FnOk Pr w K mg base CX0 40 (He.ga K "_law_sum") (fdAt K (He.ga K "_law_sum")) ["_law_one", "_law_other"] (spF (sysOf K) R_law_sum) := by
  refine pure_ok (S := sysOf K) (k := 39) T.F_law_sum sc_law_sum (fun ds d h => ?_) (fun cdv A outer s H E hr => ?_)
  · obtain ⟨p, q, n, m, rfl, _⟩ := h
    rfl
  · refine ⟨_, (pss_one (ps_ret (pe_tup (pa_cons (pe_op op_add (pe_op op_mulX (pe_ix ix_tup (pv 0) pe_int (fun _ _ => rfl)) (pe_ix ix_tup (pv 1) pe_int (fun _ _ => rfl))) (pe_op op_mulX (pe_ix ix_tup (pv 1) pe_int (fun _ _ => rfl)) (pe_ix ix_tup (pv 0) pe_int (fun _ _ => rfl)))) (pa_cons (pe_op op_mulX (pe_ix ix_tup (pv 0) pe_int (fun _ _ => rfl)) (pe_ix ix_tup (pv 1) pe_int (fun _ _ => rfl))) pa_nil))))), fun ds d h => ?_⟩
    obtain ⟨p, q, n, m, rfl, sp, sq, l, rfl⟩ := h
    exact rd_ret (ed_num (q := sumL p q) (ed_op (ed_op (ed_n0 (ed_var rfl)) (ed_n1 (ed_var rfl)) (rv_mul (mulOk sp.1 sq.2 l))) (ed_op (ed_n0 (ed_var rfl)) (ed_n1 (ed_var rfl)) (rv_mul (mulOk sq.1 sp.2 (by omega)))) rv_add)
      (ed_op (ed_n1 (ed_var rfl)) (ed_n1 (ed_var rfl)) (rv_mul (mulOk sp.2 sq.2 l)))) (.inl rfl)
def R_law_times (ds : List Dat) (d : Dat) : Prop := ∃ (p q : Num) (n m : Nat), ds = [num p, num q] ∧ Sz n p ∧ Sz m q ∧ n + m ≤ 134217728 ∧ d = num (timesL p q)
theorem ok_law_times (T : Txt K mg) (B : Bas Pr base) : FnOk Pr w K mg base CX0 40 (He.ga K "_law_times") (fdAt K (He.ga K "_law_times")) ["_law_one", "_law_other"] (spF (sysOf K) R_law_times) := by
  refine pure_ok (S := sysOf K) (k := 39) T.F_law_times sc_law_times (fun ds d h => ?_) (fun cdv A outer s H E hr => ?_)
  · obtain ⟨p, q, n, m, rfl, _⟩ := h
    rfl
  · refine ⟨_, (pss_one (ps_ret (pe_tup (pa_cons (pe_op op_mulX (pe_ix ix_tup (pv 0) pe_int (fun _ _ => rfl)) (pe_ix ix_tup (pv 1) pe_int (fun _ _ => rfl))) (pa_cons (pe_op op_mulX (pe_ix ix_tup (pv 0) pe_int (fun _ _ => rfl)) (pe_ix ix_tup (pv 1) pe_int (fun _ _ => rfl))) pa_nil))))), fun ds d h => ?_⟩
    obtain ⟨p, q, n, m, rfl, sp, sq, l, rfl⟩ := h
    exact rd_ret (ed_num (q := timesL p q) (ed_op (ed_n0 (ed_var rfl)) (ed_n0 (ed_var rfl)) (rv_mul (mulOk sp.1 sq.1 l))) (ed_op (ed_n1 (ed_var rfl)) (ed_n1 (ed_var rfl)) (rv_mul (mulOk sp.2 sq.2 l)))) (.inl rfl)
def R_law_turned (ds : List Dat) (d : Dat) : Prop := ∃ (p : Num), ds = [num p] ∧ d = num (turnL p)
theorem ok_law_turned (T : Txt K mg) (B : Bas Pr base) : FnOk Pr w K mg base CX0 40 (He.ga K "_law_turned") (fdAt K (He.ga K "_law_turned")) ["_law_one"] (spF (sysOf K) R_law_turned) := by
  refine pure_ok (S := sysOf K) (k := 39) T.F_law_turned sc_law_turned (fun ds d h => ?_) (fun cdv A outer s H E hr => ?_)
  · obtain ⟨p, rfl, _⟩ := h
    rfl
  · refine ⟨_, (pss_one (ps_ret (pe_tup (pa_cons (pe_op op_sub pe_int (pe_ix ix_tup (pv 0) pe_int (fun _ _ => rfl))) (pa_cons (pe_ix ix_tup (pv 0) pe_int (fun _ _ => rfl)) pa_nil))))), fun ds d h => ?_⟩
    obtain ⟨p, rfl, rfl⟩ := h
    exact rd_ret (ed_num (q := turnL p) (ed_op ed_int (ed_n0 (q := p) (ed_var rfl)) rv_sub) (ed_n1 (q := p) (ed_var rfl))) (.inl rfl)
/-- a number in lowest terms -/
def Low (q : Num) : Prop := 0 < q.2 ∧ Int.gcd q.1 q.2 = 1
def R_law_number (ds : List Dat) (d : Dat) : Prop := ∃ (p : Num), ds = [num p] ∧ Low p ∧ d = .bl true
theorem ok_law_number (T : Txt K mg) (B : Bas Pr base) : FnOk Pr w K mg base CX0 41 (He.ga K "_law_number") (fdAt K (He.ga K "_law_number")) ["_law_x"] (spF (sysOf K) R_law_number) := by
  refine pure_ok (S := sysOf K) (k := 40) T.F_law_number sc_law_number (fun ds d h => ?_) (fun cdv A outer s H E hr => ?_)
  · obtain ⟨p, rfl, _⟩ := h
    rfl
  · refine ⟨_, (pss_cons (ps_if (PW.pt (pw_or (pt_not (pt_val (pe_callB call_isi (by rfl) T.n_isinstance (by decide +kernel) (pa_cons (pv 0) (pa_cons (pe_bltn (v := .ty "tuple") (u := .type "tuple") rfl T.n_tuple (by decide +kernel) rfl) pa_nil))))) (pw_or1 (pt_cmpR op_ne (pe_callB call_len_seq (by rfl) T.n_len (by decide +kernel) (pa_cons (pv 0) pa_nil)) pe_int (nomark _))))) (pss_one (ps_ret pe_bl)) pss_nil) (pss_cons (ps_for PassesOwn.never rfl (pi_tup (pv 0)) (pg_name (i := 1) (sc_law_number).nd rfl (Or.inl rfl)) (pss_one (ps_if (PW.pt (pw_or (pt_not (pt_val (pe_callB call_isi (by rfl) T.n_isinstance (by decide +kernel) (pa_cons (pv 1) (pa_cons (pe_bltn (v := .ty "int") (u := .type "int") rfl T.n_int (by decide +kernel) rfl) pa_nil))))) (pw_or1 (pt_val (pe_callB call_isi (by rfl) T.n_isinstance (by decide +kernel) (pa_cons (pv 1) (pa_cons (pe_bltn (v := .ty "bool") (u := .type "bool") rfl T.n_bool (by decide +kernel) rfl) pa_nil))))))) (pss_one (ps_ret pe_bl)) pss_nil))) (pss_one (ps_ret (pe_and (pe_cmpR op_gt (pe_ix ix_tup (pv 0) pe_int (fun _ _ => rfl)) pe_int (nomark _)) (pe_one (pe_cmpR (op_eqD hr.units) (pe_call (ok_law_lowest T B) (hr.mono (by decide)) rfl T.g_law_lowest T.F_law_lowest.kp T.b_law_lowest .nil pass0 (pa_cons (pe_ix ix_tup (pv 0) pe_int (fun _ _ => rfl)) (pa_cons (pe_ix ix_tup (pv 0) pe_int (fun _ _ => rfl)) pa_nil))) (pv 0) (nomark _)))))))), fun ds d h => ?_⟩
    obtain ⟨p, rfl, ⟨h0, h1⟩, rfl⟩ := h
    have hlen : ∀ G : Gam, G[0]? = some (some (num p)) → EvT (sysOf K) (tTest (tOp rNe (tCB (fun xs H Q => ∃ p ys, xs = [V.ref p] ∧ (SqL K H p ys ∨ SqT K H p ys) ∧ Q (.int ys.length) H) (tCons (tVar 0) tNil)) (tC (.int 2)))) G false := fun G h => et_test (ed_op (ed_cb (ea_cons (ed_var h) ea_nil) rc_lenT) ed_int rv_neI)
    refine rd_seq (rd_if (b := false) (et_or (a := false) (et_not (a := true) (et_B (ed_cb (ea_cons (ed_var rfl) (ea_cons ed_ty ea_nil)) (rc_isi (n := "tuple") (b := true) rfl)))) fun _ => hlen _ rfl) (fun h => by cases h) fun _ => rd_next ?_)
    refine rd_seq (rd_for_tup (ds := [.int p.1, .int p.2]) (ed_var rfl) (fun k G => G[0]? = some (some (num p)) ∧ G.length = 2) ⟨rfl, rfl⟩ (fun k d G hd hG => ?_) fun G hG => ?_)
    · have hi : ∃ i, d = .int i := by
        match k, hd with
        | 0, hd => exact ⟨p.1, (Option.some.inj hd).symm⟩
        | 1, hd => exact ⟨p.2, (Option.some.inj hd).symm⟩
        | k + 2, hd => simp at hd
      obtain ⟨i, rfl⟩ := hi
      obtain ⟨g0, gl⟩ := hG
      match G, gl with
      | [a, b], _ =>
        refine ⟨_, tg_name, rd_if (b := false) (et_or (a := false) (et_not (a := true) (et_B (ed_cb (ea_cons (ed_var rfl) (ea_cons ed_ty ea_nil)) (rc_isi (n := "int") (b := true) rfl)))) fun _ => et_B (ed_cb (ea_cons (ed_var rfl) (ea_cons ed_ty ea_nil)) (rc_isi (n := "int") (b := false) rfl))) (fun h => by cases h) fun _ => rd_next ⟨g0, rfl⟩⟩
    · obtain ⟨g0, gl⟩ := hG
      have e : lowOf p.1 p.2 = p := by
        unfold lowOf
        rw [h1]
        simp
      refine rd_ret ((ed_andV (a := true) (b := true) ((ed_op (ed_n1 (ed_var g0)) ed_int rv_gt).to ?_) fun _ => (ed_op (ed_call (ea_cons (ed_n0 (ed_var g0)) (ea_cons (ed_n1 (ed_var g0)) ea_nil)) ⟨_, _, rfl, h0, rfl⟩) (ed_var g0) rv_eqN).to ?_)) (.inl rfl)
      · rw [decide_eq_true h0]
      · rw [e, decide_eq_true rfl]
def dotL (p q : Num × Num) : Num := sumL (timesL p.1 q.1) (timesL p.2 q.2)
def R_law_dot (ds : List Dat) (d : Dat) : Prop := ∃ (p q : Num × Num) (n m : Nat), (ds = [way p, way q] ∨ ds = [.lst [num p.1, num p.2], .lst [num q.1, num q.2]]) ∧ Sz n p.1 ∧ Sz n p.2 ∧ Sz m q.1 ∧ Sz m q.2 ∧ 2 * (n + m) ≤ 134217728 ∧ d = num (dotL p q)
end
end Ty
set_option Elab.async false
set_option linter.all false
set_option maxRecDepth 100000
set_option maxHeartbeats 4000000
/-! A list or dict that a def fills: it stands in one slot, apart from all that stands still. -/
namespace Ty
open PySem PySem.Spec PyProof.Rows L2
inductive Own where
  | L (ds : List Dat) | K (kvs : List (Key × Dat)) | T (kvs : List (List Key × Dat))
def Own.dat : Own → Dat
  | .L ds => .lst ds
  | .K kvs => .dK kvs
  | .T kvs => .dT kvs
inductive OwnAt (S : Sys) (H1 : Hp) : HO → Own → Prop
  | L {vs : List V} {ds : List Dat} : DtA S H1 vs ds → OwnAt S H1 (.lst vs) (.L ds)
  | K {vs : List (Key × V)} {ds : List (Key × Dat)} : DtK S H1 vs ds → OwnAt S H1 (.dK vs) (.K ds)
  | T {vs : List (List Key × V)} {ds : List (List Key × Dat)} : DtT S H1 vs ds → OwnAt S H1 (.dT vs) (.T ds)
theorem OwnAt.mono {S : Sys} {H H' : Hp} {o : HO} {w : Own} (e : Same H H') : OwnAt S H o w → OwnAt S H' o w
  | .L h => .L (h.mono e)
  | .K h => .K (h.mono e)
  | .T h => .T (h.mono e)
theorem OwnAt.dt {S : Sys} {H1 : Hp} {o : HO} {w : Own} {D : Addr} (h : OwnAt S H1 o w) (hn : H1 D = none) : Dt S (upd H1 D o) (.ref D) w.dat := by
  cases h with
  | L h => exact .lst upd_same (h.mono (same_new hn))
  | K h => exact .dK upd_same (h.mono (same_new hn))
  | T h => exact .dT upd_same (h.mono (same_new hn))
structure AtO (S : Sys) (i : Nat) (σ : L2.St) (H1 H : Hp) (D : Addr) (w : Own) : Prop where
  sl : σ[i]? = some (some (.ref D))
  ap : H1 D = none
  ob : ∃ o, H D = some o ∧ OwnAt S H1 o w
structure StepM (D : Addr) (H1 H H2 H' : Hp) : Prop where
  s1 : Same H1 H2
  s2 : Same H2 H'
  s3 : ∀ b o, b ≠ D → H b = some o → H' b = some o
  fr : ∀ b o, H2 b = some o → H1 b = some o ∨ H b = none
  nd : H2 D = none
theorem StepM.refl {D : Addr} {H1 H : Hp} (e : Same H1 H) (n : H1 D = none) : StepM D H1 H H1 H := ⟨Same.refl _, e, fun _ _ _ h => h, fun _ _ h => .inl h, n⟩
theorem StepM.trans {D : Addr} {H1 H H2 H' H3 H'' : Hp} (a : StepM D H1 H H2 H') (b : StepM D H2 H' H3 H'') : StepM D H1 H H3 H'' :=
  ⟨a.s1.trans b.s1, b.s2, fun c o n h => b.s3 c o n (a.s3 c o n h), fun c o h => (b.fr c o h).elim (fun q => a.fr c o q) (fun q => by
    by_cases z : c = D
    · subst z
      rw [b.nd] at h
      cases h
    · refine .inr ?_
      cases e : H c with
      | none => rfl
      | some u =>
        rw [a.s3 c u z e] at q
        cases q), b.nd⟩
/-- a step that only makes new things -/
theorem StepM.of {D : Addr} {H1 H H2 H' : Hp} {o : HO} (s : Step H1 H H2 H') (n : H1 D = none) (h : H D = some o) : StepM D H1 H H2 H' := ⟨s.s1, s.s2, fun b o _ q => s.s3 b o q, s.fr, by
  cases z : H2 D with
  | none => rfl
  | some u =>
    rcases s.fr D u z with q | q
    · rw [n] at q
      cases q
    · rw [h] at q
      cases q⟩
theorem AtO.step {S : Sys} {i : Nat} {σ : L2.St} {H1 H H2 H' : Hp} {D : Addr} {w : Own} (a : AtO S i σ H1 H D w) (s : Step H1 H H2 H') : AtO S i σ H2 H' D w ∧ StepM D H1 H H2 H' := by
  obtain ⟨o, ho, hw⟩ := a.ob
  have m := StepM.of s a.ap ho
  exact ⟨⟨a.sl, m.nd, o, s.s3 _ _ ho, hw.mono s.s1⟩, m⟩
inductive OutM where
  | nx (G : Gam) (w : Own) | rt (d : Dat) | bk (G : Gam) (w : Own) | ct (G : Gam) (w : Own)
structure FinM (S : Sys) (i : Nat) (D : Addr) (H1 H : Hp) (Ds : Ends) (P : OutM → Prop) : Prop where
  nx : ∀ G w, P (.nx G w) → ∀ σ H2 H', StepM D H1 H H2 H' → EnvD S H2 σ G → AtO S i σ H2 H' D w → Ds.nx σ H'
  rt : ∀ d, P (.rt d) → ∀ H2 H' v, StepM D H1 H H2 H' → Dt S H2 v d → Ds.rt v H'
  bk : ∀ G w, P (.bk G w) → ∀ σ H2 H', StepM D H1 H H2 H' → EnvD S H2 σ G → AtO S i σ H2 H' D w → Ds.bk σ H'
  ct : ∀ G w, P (.ct G w) → ∀ σ H2 H', StepM D H1 H H2 H' → EnvD S H2 σ G → AtO S i σ H2 H' D w → Ds.ct σ H'
def RunM (S : Sys) (i : Nat) (ts : TS) (G : Gam) (w : Own) (P : OutM → Prop) : Prop := ∀ σ H1 H Ds D, Same H1 H → EnvD S H1 σ G → AtO S i σ H1 H D w → FinM S i D H1 H Ds P → ts Ds σ H
/-- expressions, while the owned thing may be read -/
def EvL (S : Sys) (i : Nat) (te : TE) (G : Gam) (w : Own) (d : Dat) : Prop := ∀ σ H1 H D, Same H1 H → EnvD S H1 σ G → AtO S i σ H1 H D w → ∀ Q : VK, (∀ H2 H' v, Step H1 H H2 H' → Dt S H2 v d → Q v H') → te σ H Q
def EaL (S : Sys) (i : Nat) (ta : TA) (G : Gam) (w : Own) (ds : List Dat) : Prop := ∀ σ H1 H D, Same H1 H → EnvD S H1 σ G → AtO S i σ H1 H D w → ∀ Q : List V → Hp → Prop, (∀ H2 H' vs, Step H1 H H2 H' → DtA S H2 vs ds → Q vs H') → ta σ H Q
def TgM (S : Sys) (i : Nat) (g : TG) (d : Dat) (G G' : Gam) : Prop := ∀ v σ H1 H, Same H1 H → EnvD S H1 σ G → Dt S H1 v d → ∀ Q : L2.St → Hp → Prop, (∀ σ', EnvD S H1 σ' G' → σ'[i]? = σ[i]? → Q σ' H) → g v σ H Q
def TgsM (S : Sys) (i : Nat) (g : TGs) (ds : List Dat) (G G' : Gam) : Prop := ∀ vs σ H1 H, Same H1 H → EnvD S H1 σ G → DtA S H1 vs ds → ∀ Q : L2.St → Hp → Prop, (∀ σ', EnvD S H1 σ' G' → σ'[i]? = σ[i]? → Q σ' H) → g vs σ H Q
section
variable {S : Sys} {i : Nat} {te ta tb ty tv : TE} {G : Gam} {w : Own} {d x y z : Dat} {t u : TS} {P : OutM → Prop} {c : TT} {b : Bool}
theorem EvD.l (h : EvD S te G d) : EvL S i te G w d := fun σ H1 H D e E _ Q q => h σ H1 H e E Q q
theorem eaL_nil : EaL S i tNil G w [] := fun σ H1 H D e E a Q q => q H1 H [] (Step.refl e) .nil
theorem eaL_cons {tr : TA} {ds : List Dat} (ha : EvL S i ta G w d) (hr : EaL S i tr G w ds) : EaL S i (tCons ta tr) G w (d :: ds) := fun σ H1 H D e E a Q q =>
  ha σ H1 H D e E a _ fun H2 H' u s1 d1 => hr σ H2 H' D s1.s2 (E.mono s1.s1) (a.step s1).1 _ fun H3 H'' vs s2 d2 => q H3 H'' (u :: vs) (s1.trans s2) (.cons (d1.mono s2.s1) d2)
theorem elL_call {R : List Dat → Dat → Prop} {E0 : XK} {t : TA} {ds : List Dat} (h : EaL S i t G w ds) (hr : R ds d) : EvL S i (tCall (spF S R) [] E0 t) G w d := fun σ H1 H D e E a Q q =>
  h σ H1 H D e E a _ fun H2 H' vs s dv => ⟨H2, ds, d, s.s2, by rw [List.append_nil]; exact dv, hr, fun H3 H'' v s2 d2 => q H3 H'' v (s.trans s2) d2⟩
/-- the owned dict, list read -/
theorem elL_get {kvs : List (Key × Dat)} {k : Key} (hy : EvD S ty G (keyD k)) (hk : valD kvs k = some d) : EvL S i (tDGet (tVar i) ty) G (.K kvs) d := fun σ H1 H D e E a Q q => by
  refine ⟨_, a.sl, ?_⟩
  refine hy σ H1 H e E _ fun H2 H' y s1 dy => ?_
  obtain ⟨⟨_, _, o, ho, hw⟩, _⟩ := a.step s1
  cases hw with
  | K hd =>
    rcases hd.val k with ⟨_, h2⟩ | ⟨u, x, h1, h2, h3⟩
    · rw [hk] at h2
      cases h2
    · rw [hk] at h2
      cases h2
      refine ⟨D, u, rfl, ?_, q H2 H' u s1 h3⟩
      rw [← h1]
      have : y = kV k := by
        cases k with
        | inl n => cases dy; rfl
        | inr n => cases dy; rfl
      rw [this]
      exact DGet.k ho
theorem elL_ix {ds : List Dat} {n : Int} {ti : TE} (hy : EvD S ti G (.int n)) (hk : atI ds n = some d) : EvL S i (tOp (rIxL S.K) (tVar i) ti) G (.L ds) d := fun σ H1 H D e E a Q q => by
  refine ⟨_, a.sl, ?_⟩
  refine hy σ H1 H e E _ fun H2 H' y s1 dy => ?_
  obtain ⟨⟨_, _, o, ho, hw⟩, _⟩ := a.step s1
  cases dy
  cases hw with
  | L hd =>
    obtain ⟨w, h1, h2⟩ := hd.atI hk
    exact ⟨D, _, n, w, rfl, rfl, SqL.of ho, h1, q H2 H' w s1 h2⟩
/-- list(d) of the owned dict -/
theorem elL_keys {kvs : List (Key × Dat)} : EvL S i (tCB rListD (tCons (tVar i) tNil)) G (.K kvs) (.lst (kvs.map fun kv => keyD kv.1)) := fun σ H1 H D e E a Q q => by
  refine ⟨_, a.sl, ?_⟩
  obtain ⟨_, hn, o, ho, hw⟩ := a
  cases hw with
  | K hd => exact ⟨D, _, rfl, ho, fun l hl => q _ _ _ (Step.new e hl) (.lst upd_same (keysD_ok hd _))⟩
theorem tm_name {j : Nat} (hj : j ≠ i) : TgM S i (gName j) d G (G.set j (some d)) := fun v σ H1 H e E dv Q q => q _ (E.set dv) (List.getElem?_set_ne hj)
theorem tms_nil : TgsM S i gNil [] G G := fun vs σ H1 H e E dv Q q => by
  cases dv
  exact ⟨rfl, q σ E rfl⟩
theorem tms_cons {g : TG} {gs : TGs} {ds : List Dat} {G1 G2 : Gam} (h : TgM S i g d G G1) (hs : TgsM S i gs ds G1 G2) : TgsM S i (gCons g gs) (d :: ds) G G2 := fun vs σ H1 H e E dv Q q => by
  cases dv with
  | cons d1 t1 => exact ⟨_, _, rfl, h _ σ H1 H e E d1 _ fun σ' E' e1 => hs _ σ' H1 H e E' t1 Q fun σ2 E2 e2 => q σ2 E2 (e2.trans e1)⟩
theorem tm_tup {n : Nat} {gs : TGs} {ds : List Dat} {G' : Gam} (hs : TgsM S i gs ds G G') (hl : ds.length = n := by rfl) : TgM S i (gTup S.K n gs) (.tup ds) G G' := fun v σ H1 H e E dv Q q => by
  cases dv with
  | tup ha hd => exact ⟨_, _, rfl, sqT_mono e ha, by rw [hd.length]; exact hl, hs _ σ H1 H e E hd Q q⟩
theorem AtO.slot {σ σ' : L2.St} {H1 H : Hp} {D : Addr} (a : AtO S i σ H1 H D w) (e : σ'[i]? = σ[i]?) : AtO S i σ' H1 H D w := ⟨e.trans a.sl, a.ap, a.ob⟩
theorem FinM.step {D : Addr} {H1 H H2 H' : Hp} {Ds : Ends} (s : StepM D H1 H H2 H') (f : FinM S i D H1 H Ds P) : FinM S i D H2 H' Ds P :=
  ⟨fun G w p σ H3 H'' q => f.nx G w p σ H3 H'' (s.trans q), fun d p H3 H'' v q => f.rt d p H3 H'' v (s.trans q), fun G w p σ H3 H'' q => f.bk G w p σ H3 H'' (s.trans q), fun G w p σ H3 H'' q => f.ct G w p σ H3 H'' (s.trans q)⟩
def ThenM (S : Sys) (i : Nat) (u : TS) (P : OutM → Prop) : OutM → Prop
  | .nx G w => RunM S i u G w P
  | o => P o
theorem rm_seq (h : RunM S i t G w (ThenM S i u P)) : RunM S i (tSeq t u) G w P := fun σ H1 H Ds D e E a f => h σ H1 H { Ds with nx := u Ds } D e E a
  ⟨fun G' w' r σ' H2 H' s E' a' => r σ' H2 H' Ds D s.s2 E' a' (f.step s), fun d p => f.rt d p, fun G' w' p => f.bk G' w' p, fun G' w' p => f.ct G' w' p⟩
theorem rm_next (p : P (.nx G w)) : RunM S i tNext G w P := fun σ H1 H Ds D e E a f => f.nx G w p σ H1 H (StepM.refl e a.ap) E a
theorem rm_cont (p : P (.ct G w)) : RunM S i tCont G w P := fun σ H1 H Ds D e E a f => f.ct G w p σ H1 H (StepM.refl e a.ap) E a
theorem rm_set {j : Nat} (hj : j ≠ i) (h : EvL S i te G w d) (p : P (.nx (G.set j (some d)) w)) : RunM S i (tAsg te (gName j)) G w P := fun σ H1 H Ds D e E a f =>
  h σ H1 H D e E a _ fun H2 H' v s dv => f.nx _ _ p _ H2 H' (a.step s).2 ((E.mono s.s1).set dv) ((a.step s).1.slot (List.getElem?_set_ne hj))
theorem rm_asg {g : TG} {G' : Gam} (h : EvL S i te G w d) (hg : TgM S i g d G G') (p : P (.nx G' w)) : RunM S i (tAsg te g) G w P := fun σ H1 H Ds D e E a f =>
  h σ H1 H D e E a _ fun H2 H' v s dv => hg v σ H2 H' s.s2 (E.mono s.s1) dv _ fun σ' E' e' => f.nx _ _ p σ' H2 H' (a.step s).2 E' ((a.step s).1.slot e')
theorem rm_if (h : EvT S c G b) (h1 : b = true → RunM S i t G w P) (h2 : b = false → RunM S i u G w P) : RunM S i (tIfS c t u) G w P := fun σ H1 H Ds D e E a f =>
  h σ H1 H e E _ fun H2 H' s => by
    cases b with
    | true => exact iteT (h1 rfl σ H2 H' Ds D s.s2 (E.mono s.s1) (a.step s).1 (f.step (a.step s).2))
    | false => exact iteF (h2 rfl σ H2 H' Ds D s.s2 (E.mono s.s1) (a.step s).1 (f.step (a.step s).2))
/-- the owned thing is changed -/
theorem StepM.mut {D : Addr} {H1 H : Hp} {o : HO} (e : Same H1 H) (n : H1 D = none) : StepM D H1 H H1 (upd H D o) := ⟨Same.refl _, same_mut e n, fun b u h q => by rw [upd_ne h]; exact q, fun _ _ h => .inl h, n⟩
theorem rm_append {ds : List Dat} (h : EvL S i te G (.L ds) d) (hl : ds.length < 100000) (p : P (.nx G (.L (ds ++ [d])))) : RunM S i (tDrop (tBM S.K "list" rAppend (tVar i) (tCons te tNil))) G (.L ds) P := fun σ H1 H Ds D e E a f => by
  have a0 := a
  obtain ⟨o, ho, hw⟩ := a.ob
  cases hw with
  | @L vs _ hd =>
    refine ⟨_, a.sl, .inl ⟨rfl, _, SqL.of ho⟩, ?_⟩
    refine h σ H1 H D e E a0 _ fun H2 H' v s dv => ?_
    obtain ⟨a1, m1⟩ := a0.step s
    refine ⟨D, vs, v, rfl, rfl, s.s3 _ _ ho, by rw [hd.length, sizeLine_eq]; omega, ?_⟩
    exact f.nx _ _ p σ H2 _ (m1.trans (StepM.mut s.s2 m1.nd)) (E.mono s.s1) ⟨a1.sl, a1.ap, _, upd_same, .L ((hd.mono s.s1).snoc dv)⟩
end
/-- d[k] = e -/
def putD {κ α : Type} [DecidableEq κ] (ds : List (κ × α)) (k : κ) (d : α) : List (κ × α) := if (ds.any fun kv => decide (kv.1 = k)) = true then ds.map (fun kv => if kv.1 = k then (kv.1, d) else kv) else ds ++ [(k, d)]
theorem valD_map {κ α β : Type} [DecidableEq κ] (f : α → β) (k : κ) : ∀ ds : List (κ × α), valD (ds.map fun p => (p.1, f p.2)) k = (valD ds k).map f
  | [] => rfl
  | p :: ds => by
    have ih := valD_map f k ds
    unfold valD at ih ⊢
    rw [List.map_cons, List.find?_cons, List.find?_cons]
    by_cases e : p.1 = k
    · simp [e]
    · simp only [e, decide_false]
      exact ih
theorem putD_map {κ α β : Type} [DecidableEq κ] (f : α → β) (k : κ) (a : α) (ds : List (κ × α)) : putD (ds.map fun p => (p.1, f p.2)) k (f a) = (putD ds k a).map fun p => (p.1, f p.2) := by
  unfold putD
  have e : ((ds.map fun p => (p.1, f p.2)).any fun kv => decide (kv.1 = k)) = (ds.any fun kv => decide (kv.1 = k)) := by
    rw [List.any_map]
    rfl
  rw [e]
  split
  · rw [List.map_map, List.map_map]
    refine List.map_congr_left fun p _ => ?_
    show (if p.1 = k then (p.1, f a) else (p.1, f p.2)) = _
    by_cases q : p.1 = k
    · rw [if_pos q]
      show _ = ((fun p => (p.1, f p.2)) (if p.1 = k then (p.1, a) else p))
      rw [if_pos q]
    · rw [if_neg q]
      show _ = ((fun p => (p.1, f p.2)) (if p.1 = k then (p.1, a) else p))
      rw [if_neg q]
  · rw [List.map_append]
    rfl
section
variable {S : Sys} {H : Hp}
theorem any_keys {κ α β : Type} [DecidableEq κ] {k : κ} : ∀ {xs : List (κ × α)} {ys : List (κ × β)}, xs.map (·.1) = ys.map (·.1) → (xs.any fun kv => decide (kv.1 = k)) = (ys.any fun kv => decide (kv.1 = k))
  | [], [], _ => rfl
  | [], _ :: _, h => by cases h
  | _ :: _, [], h => by cases h
  | x :: xs, y :: ys, h => by
    rw [List.map_cons, List.map_cons] at h
    injection h with h1 h2
    rw [List.any_cons, List.any_cons, h1, any_keys h2]
theorem DtK.putMap {k : Key} {u : V} {x : Dat} (q : Dt S H u x) : ∀ {v : List (Key × V)} {d : List (Key × Dat)}, DtK S H v d → DtK S H (v.map fun kv => if kv.1 = k then (kv.1, u) else kv) (d.map fun kv => if kv.1 = k then (kv.1, x) else kv)
  | _, _, .nil => .nil
  | _, _, @DtK.cons _ _ k' v vs d ds h t => by
    rw [List.map_cons, List.map_cons]
    by_cases e : k' = k
    · rw [if_pos e, if_pos e]
      exact .cons q (DtK.putMap q t)
    · rw [if_neg e, if_neg e]
      exact .cons h (DtK.putMap q t)
theorem DtK.put {k : Key} {u : V} {x : Dat} {v : List (Key × V)} {d : List (Key × Dat)} (h : DtK S H v d) (q : Dt S H u x) : DtK S H (putK v k u) (putD d k x) := by
  unfold putK putD
  rw [any_keys h.keys]
  split
  · exact DtK.putMap q h
  · exact h.snoc q
theorem DtT.snoc : ∀ {v : List (List Key × V)} {d : List (List Key × Dat)} {k : List Key} {u : V} {x : Dat}, DtT S H v d → Dt S H u x → DtT S H (v ++ [(k, u)]) (d ++ [(k, x)])
  | _, _, _, _, _, .nil, q => .cons q .nil
  | _, _, _, _, _, .cons h t, q => .cons h (DtT.snoc t q)
theorem DtT.putMap {k : List Key} {u : V} {x : Dat} (q : Dt S H u x) : ∀ {v : List (List Key × V)} {d : List (List Key × Dat)}, DtT S H v d → DtT S H (v.map fun kv => if kv.1 = k then (kv.1, u) else kv) (d.map fun kv => if kv.1 = k then (kv.1, x) else kv)
  | _, _, .nil => .nil
  | _, _, @DtT.cons _ _ k' v vs d ds h t => by
    rw [List.map_cons, List.map_cons]
    by_cases e : k' = k
    · rw [if_pos e, if_pos e]
      exact .cons q (DtT.putMap q t)
    · rw [if_neg e, if_neg e]
      exact .cons h (DtT.putMap q t)
theorem DtT.put {k : List Key} {u : V} {x : Dat} {v : List (List Key × V)} {d : List (List Key × Dat)} (h : DtT S H v d) (q : Dt S H u x) : DtT S H (putK v k u) (putD d k x) := by
  unfold putK putD
  rw [any_keys h.keys]
  split
  · exact DtT.putMap q h
  · exact h.snoc q
theorem putD_new {κ α : Type} [DecidableEq κ] {ds : List (κ × α)} {k : κ} {d : α} (h : ¬ k ∈ ds.map (·.1)) : putD ds k d = ds ++ [(k, d)] := by
  unfold putD
  rw [if_neg]
  intro q
  obtain ⟨p, hp, e⟩ := List.any_eq_true.mp q
  exact h (List.mem_map.mpr ⟨p, hp, of_decide_eq_true e⟩)
theorem keyV_of {k : Key} {v : V} (h : Dt S H v (keyD k)) : v = kV k := by
  cases k with
  | inl n => cases h; rfl
  | inr n => cases h; rfl
theorem keyVs_of : ∀ {ks : List Key} {vs : List V}, DtA S H vs (ks.map keyD) → vs = ks.map kV
  | [], _, .nil => rfl
  | k :: ks, _, .cons h t => by
    rw [keyV_of h, keyVs_of t]
    rfl
end
section
variable {S : Sys} {i : Nat} {te ta tb ty tv : TE} {G : Gam} {w : Own} {d x y z : Dat} {t u : TS} {P : OutM → Prop} {c : TT} {b : Bool}
theorem rm_dput {kvs : List (Key × Dat)} {k : Key} (hv : EvL S i tv G (.K kvs) d) (hy : EvD S ty G (keyD k)) (hl : kvs.length < 100000) (p : P (.nx G (.K (putD kvs k d)))) : RunM S i (sDPut (tVar i) ty tv) G (.K kvs) P := fun σ H1 H Ds D e E a f => by
  refine hv σ H1 H D e E a _ fun H2 H' v s dv => ?_
  obtain ⟨a1, m1⟩ := a.step s
  refine ⟨_, a1.sl, ?_⟩
  refine hy σ H2 H' s.s2 (E.mono s.s1) _ fun H3 H'' y s2 dy => ?_
  obtain ⟨a2, m2⟩ := a1.step s2
  obtain ⟨sl, ap, o, ho, hw⟩ := a2
  cases hw with
  | @K vs _ hd =>
    rw [keyV_of dy]
    refine ⟨D, _, rfl, DPut.k ho (by rw [hd.length, sizeLine_eq]; omega), ?_⟩
    exact f.nx _ _ p σ H3 _ ((m1.trans m2).trans (StepM.mut s2.s2 m2.nd)) (E.mono (s.s1.trans s2.s1)) ⟨sl, ap, _, upd_same, .K (hd.put (dv.mono s2.s1))⟩
/-- d[a, b] = e -/
theorem rm_tput {kvs : List (List Key × Dat)} {ks : List Key} {tk : TA} (hv : EvL S i tv G (.T kvs) d) (hy : EvA S tk G (ks.map keyD)) (hl : kvs.length < 100000) (hk : ks.length ≤ 1000) (p : P (.nx G (.T (putD kvs ks d)))) : RunM S i (sDPut (tVar i) (tTup tk) tv) G (.T kvs) P := fun σ H1 H Ds D e E a f => by
  refine hv σ H1 H D e E a _ fun H2 H' v s dv => ?_
  obtain ⟨a1, m1⟩ := a.step s
  refine ⟨_, a1.sl, ?_⟩
  refine hy σ H2 H' s.s2 (E.mono s.s1) _ fun H3 H'' ys s2 dy => ?_
  refine ⟨by rw [dy.length, List.length_map]; exact Nat.le_of_lt (small1000 hk), fun p' hp' => ?_⟩
  have s3 : Step H3 H'' (upd H3 p' (.tup ys)) (upd H'' p' (.tup ys)) := Step.new s2.s2 hp'
  obtain ⟨a2, m2⟩ := a1.step (s2.trans s3)
  obtain ⟨sl, ap, o, ho, hw⟩ := a2
  rw [keyVs_of dy] at ho s3 m2 hw ap ⊢
  cases hw with
  | @T vs _ hd =>
    refine ⟨D, _, rfl, DPut.t ho upd_same (by rw [hd.length, sizeLine_eq]; omega), ?_⟩
    exact f.nx _ _ p σ _ _ ((m1.trans m2).trans (StepM.mut s3.s2 m2.nd)) (E.mono (s.s1.trans (s2.s1.trans s3.s1))) ⟨sl, ap, _, upd_same, .T (hd.put (dv.mono (s2.s1.trans s3.s1)))⟩
/-- xs[k] = e -/
theorem rm_setL {ds : List Dat} {n : Int} {j : Nat} {ti : TE} (hv : EvL S i tv G (.L ds) d) (hy : EvD S ti G (.int n)) (hj : ixN ds.length n = some j) (p : P (.nx G (.L (ds.set j d)))) : RunM S i (tAsg tv (gSub (tVar i) ti rSetL)) G (.L ds) P := fun σ H1 H Ds D e E a f => by
  refine hv σ H1 H D e E a _ fun H2 H' v s dv => ?_
  obtain ⟨a1, m1⟩ := a.step s
  refine ⟨_, a1.sl, ?_⟩
  refine hy σ H2 H' s.s2 (E.mono s.s1) _ fun H3 H'' y s2 dy => ?_
  obtain ⟨a2, m2⟩ := a1.step s2
  obtain ⟨sl, ap, o, ho, hw⟩ := a2
  cases dy
  cases hw with
  | @L vs _ hd =>
    refine ⟨D, vs, n, j, rfl, rfl, ho, by rw [hd.length]; exact hj, ?_⟩
    exact f.nx _ _ p σ H3 _ ((m1.trans m2).trans (StepM.mut s2.s2 m2.nd)) (E.mono (s.s1.trans s2.s1)) ⟨sl, ap, _, upd_same, .L (hd.set j (dv.mono s2.s1))⟩
/-! loops -/
def TurnsM (I : Gam → Own → Prop) (P : OutM → Prop) : OutM → Prop
  | .nx G w => I G w
  | .ct G w => I G w
  | .bk G w => P (.nx G w)
  | .rt d => P (.rt d)
theorem FinM.turns {D : Addr} {H1 H H2 H' : Hp} {Ds : Ends} {I : Gam → Own → Prop} {N : L2.St → Hp → Prop} (s : StepM D H1 H H2 H') (f : FinM S i D H1 H Ds P) (h : ∀ G w, I G w → ∀ σ H3 H'', StepM D H2 H' H3 H'' → EnvD S H3 σ G → AtO S i σ H3 H'' D w → N σ H'') :
    FinM S i D H2 H' { Ds with nx := N, ct := N, bk := Ds.nx } (TurnsM I P) :=
  ⟨fun G w p => h G w p, fun d p H3 H'' v q e => f.rt d p H3 H'' v (s.trans q) e, fun G w p σ H3 H'' q => f.nx G w p σ H3 H'' (s.trans q), fun G w p => h G w p⟩
theorem rm_for_list {g : TG} {ds : List Dat} (hl : EvL S i te G w (.lst ds)) (I : Nat → Gam → Own → Prop) (h0 : I 0 G w)
    (hs : ∀ (k : Nat) (d : Dat) (G : Gam) (w : Own), ds[k]? = some d → I k G w → ∃ G', TgM S i g d G G' ∧ RunM S i t G' w (TurnsM (I (k + 1)) P)) (hd : ∀ G w, I ds.length G w → P (.nx G w)) : RunM S i (tFor (iList S.K te) g t) G w P := fun σ H1 H Ds D e E a f => by
  refine hl σ H1 H D e E a _ fun H2 H' v s dv => ?_
  obtain ⟨a1, m1⟩ := a.step s
  cases dv with
  | @lst l xs _ ha hA =>
    refine ⟨l, rfl, ⟨xs, SqL.of (s.s2 _ _ ha)⟩, for_list (K := S.K) (a := l) (xs := xs) (fun j σ3 H3 => ∃ H4 G3 w3, StepM D H2 H' H4 H3 ∧ EnvD S H4 σ3 G3 ∧ AtO S i σ3 H4 H3 D w3 ∧ I j G3 w3) ⟨H2, G, w, StepM.refl s.s2 m1.nd, E.mono s.s1, a1, h0⟩ (fun j σ3 H3 _ ⟨H4, G3, w3, s3, _, _⟩ => SqL.of (s3.s2 _ _ (s3.s1 _ _ ha))) ?_ ?_⟩
    · rintro j x σ3 H3 hx ⟨H4, G3, w3, s3, E3, a3, i3⟩
      obtain ⟨d, hd', hv⟩ := hA.getV hx
      obtain ⟨G', tg, rb⟩ := hs j d G3 w3 hd' i3
      refine tg x σ3 H4 H3 s3.s2 E3 (hv.mono s3.s1) _ fun σ4 E4 e4 => ?_
      exact rb σ4 H4 H3 _ D s3.s2 E4 (a3.slot e4) (FinM.turns (m1.trans s3) f fun G5 w5 i5 σ5 H5 H5' s5 E5 a5 => ⟨H5, G5, w5, s3.trans s5, E5, a5, i5⟩)
    · rintro σ3 H3 ⟨H4, G3, w3, s3, E3, a3, i3⟩
      rw [hA.length] at i3
      exact f.nx G3 w3 (hd G3 w3 i3) σ3 H4 H3 (m1.trans s3) E3 a3
theorem rm_for_range {g : TG} {n : Int} (hl : EvL S i te G w (.int n)) (hn : n < 2 ^ 62) (hn0 : -(2 ^ 62) ≤ n) (I : Nat → Gam → Own → Prop) (h0 : I 0 G w)
    (hs : ∀ (k : Nat) (G : Gam) (w : Own), k < n.toNat → I k G w → ∃ G', TgM S i g (.int k) G G' ∧ RunM S i t G' w (TurnsM (I (k + 1)) P)) (hd : ∀ G w, I n.toNat G w → P (.nx G w)) : RunM S i (tFor (iRng1 (tCons te tNil)) g t) G w P := fun σ H1 H Ds D e E a f => by
  refine hl σ H1 H D e E a _ fun H2 H' v s dv => ?_
  obtain ⟨a1, m1⟩ := a.step s
  cases dv
  refine ⟨n, rfl, hn0, hn, for_range (lo := 0) (n := n.toNat) (fun j σ3 H3 => ∃ H4 G3 w3, StepM D H2 H' H4 H3 ∧ EnvD S H4 σ3 G3 ∧ AtO S i σ3 H4 H3 D w3 ∧ I j G3 w3) ⟨H2, G, w, StepM.refl s.s2 m1.nd, E.mono s.s1, a1, h0⟩ ?_ ?_⟩
  · rintro j σ3 H3 hx ⟨H4, G3, w3, s3, E3, a3, i3⟩
    obtain ⟨G', tg, rb⟩ := hs j G3 w3 hx i3
    rw [show (0 : Int) + (j : Int) = (j : Int) from Int.zero_add _]
    refine tg (.int j) σ3 H4 H3 s3.s2 E3 (.int _) _ fun σ4 E4 e4 => ?_
    exact rb σ4 H4 H3 _ D s3.s2 E4 (a3.slot e4) (FinM.turns (m1.trans s3) f fun G5 w5 i5 σ5 H5 H5' s5 E5 a5 => ⟨H5, G5, w5, s3.trans s5, E5, a5, i5⟩)
  · rintro σ3 H3 ⟨H4, G3, w3, s3, E3, a3, i3⟩
    exact f.nx G3 w3 (hd G3 w3 i3) σ3 H4 H3 (m1.trans s3) E3 a3
end
/-! in and out -/
section
variable {S : Sys} {i : Nat} {te : TE} {G : Gam} {d : Dat} {t u : TS} {P : Out → Prop}
/-- a reading that makes a new list or dict -/
def NewO (S : Sys) (te : TE) (G : Gam) (w : Own) : Prop := ∀ σ H1 H, Same H1 H → EnvD S H1 σ G → ∀ Q : VK, (∀ H2 H' D o, Step H1 H H2 H' → H D = none → H2 D = none → H' D = some o → OwnAt S H2 o w → Q (.ref D) H') → te σ H Q
theorem new_lst {ta : TA} {ds : List Dat} (h : EvA S ta G ds) (hl : ds.length ≤ 1000 := by first | exact Nat.le_of_ble_eq_true rfl | simp) : NewO S (tLst ta) G (.L ds) := fun σ H1 H e E Q q =>
  h σ H1 H e E _ fun H2 H' vs s1 d1 => ⟨by rw [d1.length]; exact Nat.le_of_lt (small1000 hl), fun p hp => q H2 _ p _ ⟨s1.s1, same_mut s1.s2 (s1.s2.free hp), s1.s3.trans (same_new hp), s1.fr⟩ (s1.s3.free hp) (s1.s2.free hp) upd_same (.L d1)⟩
theorem new_K : NewO S tDNewK G (.K []) := fun σ H1 H e E Q q p hp => q H1 _ p _ ⟨Same.refl _, same_mut e (e.free hp), same_new hp, fun _ _ h => .inl h⟩ hp (e.free hp) upd_same (.K .nil)
theorem new_T : NewO S tDNewT G (.T []) := fun σ H1 H e E Q q p hp => q H1 _ p _ ⟨Same.refl _, same_mut e (e.free hp), same_new hp, fun _ _ h => .inl h⟩ hp (e.free hp) upd_same (.T .nil)
end
section
variable {S : Sys} {G : Gam}
theorem new_lc_list {i : Nat} {tl te : TE} {ds rs : List Dat} (hl : EvD S tl G (.lst ds)) (hr : rs.length = ds.length) (hz : ds.length ≤ 1000)
    (hs : ∀ (k : Nat) (d r : Dat), ds[k]? = some d → rs[k]? = some r → EvD S te ((G.set i none).set i (some d)) r) : NewO S (tLc (iList S.K tl) (gName i) tYes te [i]) G (.L rs) := fun σ H1 H e E Q q => by
  refine hl σ H1 H e E _ fun H2 H' v s dv => ?_
  cases dv with
  | @lst a xs _ ha hA =>
    refine ⟨a, rfl, ⟨xs, SqL.of (s.s2 _ _ ha)⟩, fun D hD => ?_⟩
    have hD2 : H2 D = none := s.s2.free hD
    refine lc_list (K := S.K) (a := a) (xs := xs) (fun k H3 => ∃ H4 vs, Same H2 H4 ∧ Same H4 H3 ∧ H4 D = none ∧ Same H' H3 ∧ (∀ b o, H4 b = some o → H2 b = some o ∨ H' b = none) ∧ H3 D = some (.lst vs) ∧ DtA S H4 vs (rs.take k))
      ⟨H2, [], Same.refl _, same_mut s.s2 hD2, hD2, same_new hD, fun b o h => .inl h, upd_same, .nil⟩ (fun k H3 _ ⟨H4, vs, a1, a2, _⟩ => SqL.of (a2 _ _ (a1 _ _ ha))) ?_ ?_
    · rintro k x H3 hx ⟨H4, vs, a1, a2, a3, a4, a5, a6, a7⟩
      obtain ⟨d, hd, hv⟩ := hA.getV hx
      have hk : k < rs.length := by
        rw [hr]
        exact (List.getElem?_eq_some_iff.mp hd).1
      refine ⟨wipe_set.trans wipe_set, ?_⟩
      have ev := hs k d rs[k] hd (List.getElem?_eq_getElem hk)
      unfold tYes
      dsimp only
      rw [if_pos rfl]
      refine ev _ H4 H3 a2 (((E.mono s.s1).mono a1).wipe.set (hv.mono a1)) _ fun H5 H5' y s5 dy => ?_
      have hD5 : H5 D = none := by
        cases z : H5 D with
        | none => rfl
        | some o =>
          rcases s5.fr D o z with z2 | z2
          · rw [a3] at z2
            cases z2
          · rw [a6] at z2
            cases z2
      have lv : vs.length = k := by
        rw [a7.length, List.length_take]
        omega
      refine ⟨vs, s5.s3 _ _ a6, small1000 (by omega), H5, vs ++ [y], a1.trans s5.s1, same_mut s5.s2 hD5, hD5, ?_, fun b o h => ?_, upd_same, ?_⟩
      · intro b o hb
        by_cases z : b = D
        · subst z
          rw [hb] at hD
          cases hD
        · rw [upd_ne z]
          exact s5.s3 _ _ (a4 _ _ hb)
      · rcases s5.fr b o h with z | z
        · exact a5 b o z
        · exact .inr (a4.free z)
      · rw [List.take_succ, List.getElem?_eq_getElem hk]
        exact (a7.mono s5.s1).snoc dy
    · rintro H3 ⟨H4, vs, a1, a2, a3, a4, a5, a6, a7⟩
      rw [hA.length, ← hr, List.take_length] at a7
      exact q H4 H3 D _ ⟨s.s1.trans a1, a2, s.s3.trans a4, fun b o h => (a5 b o h).elim (fun y => s.fr b o y) fun y => .inr (s.s3.free y)⟩ (s.s3.free hD) a3 a6 (.L a7)
theorem new_lc_range {i : Nat} {tn te : TE} {n : Int} {rs : List Dat} (hl : EvD S tn G (.int n)) (hn0 : 0 ≤ n) (hr : rs.length = n.toNat) (hz : n ≤ 1000)
    (hs : ∀ (k : Nat) (r : Dat), rs[k]? = some r → EvD S te ((G.set i none).set i (some (.int k))) r) : NewO S (tLc (iRng1 (tCons tn tNil)) (gName i) tYes te [i]) G (.L rs) := fun σ H1 H e E Q q => by
  refine hl σ H1 H e E _ fun H2 H' v s dv => ?_
  cases dv
  refine ⟨n, rfl, by omega, by omega, fun D hD => ?_⟩
  have hD2 : H2 D = none := s.s2.free hD
  refine lc_range (lo := 0) (n := n.toNat) (fun k H3 => ∃ H4 vs, Same H2 H4 ∧ Same H4 H3 ∧ H4 D = none ∧ Same H' H3 ∧ (∀ b o, H4 b = some o → H2 b = some o ∨ H' b = none) ∧ H3 D = some (.lst vs) ∧ DtA S H4 vs (rs.take k))
    ⟨H2, [], Same.refl _, same_mut s.s2 hD2, hD2, same_new hD, fun b o h => .inl h, upd_same, .nil⟩ ?_ ?_
  · rintro k H3 hx ⟨H4, vs, a1, a2, a3, a4, a5, a6, a7⟩
    have hk : k < rs.length := by rw [hr]; exact hx
    refine ⟨wipe_set.trans wipe_set, ?_⟩
    have ev := hs k rs[k] (List.getElem?_eq_getElem hk)
    rw [show (0 : Int) + (k : Int) = (k : Int) from Int.zero_add _]
    unfold tYes
    dsimp only
    rw [if_pos rfl]
    refine ev _ H4 H3 a2 (((E.mono s.s1).mono a1).wipe.set (.int _)) _ fun H5 H5' y s5 dy => ?_
    have hD5 : H5 D = none := by
      cases z : H5 D with
      | none => rfl
      | some o =>
        rcases s5.fr D o z with z2 | z2
        · rw [a3] at z2
          cases z2
        · rw [a6] at z2
          cases z2
    have lv : vs.length = k := by
      rw [a7.length, List.length_take]
      omega
    refine ⟨vs, s5.s3 _ _ a6, small1000 (by omega), H5, vs ++ [y], a1.trans s5.s1, same_mut s5.s2 hD5, hD5, ?_, fun b o h => ?_, upd_same, ?_⟩
    · intro b o hb
      by_cases z : b = D
      · subst z
        rw [hb] at hD
        cases hD
      · rw [upd_ne z]
        exact s5.s3 _ _ (a4 _ _ hb)
    · rcases s5.fr b o h with z | z
      · exact a5 b o z
      · exact .inr (a4.free z)
    · rw [List.take_succ, List.getElem?_eq_getElem hk]
      exact (a7.mono s5.s1).snoc dy
  · rintro H3 ⟨H4, vs, a1, a2, a3, a4, a5, a6, a7⟩
    rw [← hr, List.take_length] at a7
    exact q H4 H3 D _ ⟨s.s1.trans a1, a2, s.s3.trans a4, fun b o h => (a5 b o h).elim (fun y => s.fr b o y) fun y => .inr (s.s3.free y)⟩ (s.s3.free hD) a3 a6 (.L a7)
end
section
variable {S : Sys} {i : Nat} {te : TE} {G : Gam} {w : Own} {d : Dat} {t u : TS} {P : Out → Prop}
/-- x = [] ..; the block that fills it; from then on it is data -/
def ThenO (S : Sys) (i : Nat) (u : TS) (P : Out → Prop) : OutM → Prop
  | .nx G w => RunD S u (G.set i (some w.dat)) P
  | .rt d => P (.rt d)
  | .bk _ _ => False
  | .ct _ _ => False
theorem step_own {D : Addr} {H0 H H1 H1' H2 H' : Hp} {o : HO} (s : Step H0 H H1 H1') (m : StepM D H1 H1' H2 H') (hD : H D = none) (h : H' D = some o) : Step H0 H (upd H2 D o) H' :=
  ⟨(s.s1.trans m.s1).trans (same_new m.nd), fun b u q => by
    by_cases z : b = D
    · subst z
      rw [upd_same] at q
      rw [← q]
      exact h
    · rw [upd_ne z] at q
      exact m.s2 _ _ q, fun b u q => by
    have z : b ≠ D := fun z => by
      subst z
      rw [hD] at q
      cases q
    exact m.s3 _ _ z (s.s3 _ _ q), fun b u q => by
    by_cases z : b = D
    · subst z
      exact .inr hD
    · rw [upd_ne z] at q
      rcases m.fr b u q with y | y
      · exact s.fr b u y
      · exact .inr (s.s3.free y)⟩
theorem rd_build (h : NewO S te G w) (hi : i < G.length) (hb : RunM S i t (G.set i none) w (ThenO S i u P)) : RunD S (tSeq (tAsg te (gName i)) (tSeq t u)) G P := fun σ H1 H Ds e E f =>
  h σ H1 H e E _ fun H2 H' D o s hD hn ho hw => by
    have a : AtO S i (σ.set i (some (.ref D))) H2 H' D w := ⟨List.getElem?_set_self (by rw [E.len]; exact hi), hn, o, ho, hw⟩
    refine hb (σ.set i (some (.ref D))) H2 H' _ D s.s2 (E.mono s.s1).setN a ⟨fun G' w' r σ' H3 H'' m E' a' => ?_, fun d p H3 H'' v m dv => ?_, fun _ _ p => p.elim, fun _ _ p => p.elim⟩
    · obtain ⟨sl, ap, o', ho', hw'⟩ := a'
      have st := step_own s m hD ho'
      refine r σ' (upd H3 D o') H'' Ds st.s2 ⟨by rw [List.length_set]; exact E'.len, fun j d' q => ?_⟩ (f.step st)
      by_cases z : j = i
      · subst z
        have hl : j < G'.length := by
          have := (List.getElem?_eq_some_iff.mp q).1
          rwa [List.length_set] at this
        rw [List.getElem?_set_self hl] at q
        cases q
        exact ⟨_, sl, hw'.dt ap⟩
      · rw [List.getElem?_set_ne (Ne.symm z)] at q
        obtain ⟨v, h1, h2⟩ := E'.at_ j d' q
        exact ⟨v, h1, h2.mono (same_new ap)⟩
    · refine f.rt d p H3 H'' v ⟨s.s1.trans m.s1, m.s2, fun b u q => ?_, fun b u q => ?_⟩ dv
      · have z : b ≠ D := fun z => by
          subst z
          rw [hD] at q
          cases q
        exact m.s3 _ _ z (s.s3 _ _ q)
      · rcases m.fr b u q with y | y
        · exact s.fr b u y
        · exact .inr (s.s3.free y)
end
end Ty
namespace Ty
open PySem PySem.Spec PyProof.Rows L2
/-! ### a def that hands back what it has filled -/
def RunMW (S : Sys) (i : Nat) (ts : TS) (G : Gam) (w wf : Own) : Prop := ∀ σ H1 H Ds D, Same H1 H → EnvD S H1 σ G → AtO S i σ H1 H D w → (∀ H2 H' o, StepM D H1 H H2 H' → H' D = some o → OwnAt S H2 o wf → Ds.rt (.ref D) H') → ts Ds σ H
def RunW (S : Sys) (ts : TS) (G : Gam) (w : Own) : Prop := ∀ σ H1 H (Ds : Ends), Same H1 H → EnvD S H1 σ G → (∀ H2 H' D o, Step H1 H H2 H' → H D = none → H2 D = none → H' D = some o → OwnAt S H2 o w → Ds.rt (.ref D) H') → ts Ds σ H
section
variable {S : Sys} {i : Nat} {te : TE} {G : Gam} {w w0 wf : Own} {d : Dat} {t u : TS}
theorem mw_seq (h : RunM S i t G w (fun o => match o with | .nx G' w' => RunMW S i u G' w' wf | _ => False)) : RunMW S i (tSeq t u) G w wf := fun σ H1 H Ds D e E a q =>
  h σ H1 H { Ds with nx := u Ds } D e E a ⟨fun G' w' r σ' H2 H' m E' a' => r σ' H2 H' Ds D m.s2 E' a' fun H3 H'' o m2 ho hw => q H3 H'' o (m.trans m2) ho hw, fun _ p => p.elim, fun _ _ p => p.elim, fun _ _ p => p.elim⟩
theorem mw_ret : RunMW S i (tRet (tVar i)) G w w := fun σ H1 H Ds D e E a q => by
  obtain ⟨sl, ap, o, ho, hw⟩ := a
  exact ⟨_, sl, q H1 H o (StepM.refl e ap) ho hw⟩
theorem step_ownM {D : Addr} {H0 H H1 H1' H2 H' : Hp} (s : Step H0 H H1 H1') (m : StepM D H1 H1' H2 H') (hD : H D = none) : Step H0 H H2 H' :=
  ⟨s.s1.trans m.s1, m.s2, fun b u q => by
    have z : b ≠ D := fun z => by
      subst z
      rw [hD] at q
      cases q
    exact m.s3 _ _ z (s.s3 _ _ q), fun b u q => by
    rcases m.fr b u q with y | y
    · exact s.fr b u y
    · exact .inr (s.s3.free y)⟩
theorem rw_new (h : NewO S te G w0) (hi : i < G.length) (hb : RunMW S i u (G.set i none) w0 wf) : RunW S (tSeq (tAsg te (gName i)) u) G wf := fun σ H1 H Ds e E q =>
  h σ H1 H e E _ fun H2 H' D o s hD hn ho hw =>
    hb (σ.set i (some (.ref D))) H2 H' Ds D s.s2 (E.mono s.s1).setN ⟨List.getElem?_set_self (by rw [E.len]; exact hi), hn, o, ho, hw⟩ fun H3 H'' o' m ho' hw' =>
      q H3 H'' D o' (step_ownM s m hD) hD m.nd ho' hw'
theorem rw_set {j : Nat} (h : EvD S te G d) (hb : RunW S u (G.set j (some d)) w) : RunW S (tSeq (tAsg te (gName j)) u) G w := fun σ H1 H Ds e E q =>
  h σ H1 H e E _ fun H2 H' v s dv => hb _ H2 H' Ds s.s2 ((E.mono s.s1).set dv) fun H3 H'' D o s2 hD hn ho hw => q H3 H'' D o (s.trans s2) (s.s3.free hD) hn ho hw
def spO (S : Sys) (R : List Dat → Own → Prop) : Sp := fun vs H Q _ => ∃ H1 ds w, Same H1 H ∧ DtA S H1 vs ds ∧ R ds w ∧ ∀ H2 H' D o, Step H1 H H2 H' → H D = none → H2 D = none → H' D = some o → OwnAt S H2 o w → Q (.ref D) H'
theorem new_call {R : List Dat → Own → Prop} {E0 : XK} {t : TA} {ds : List Dat} (h : EvA S t G ds) (hr : R ds w) : NewO S (tCall (spO S R) [] E0 t) G w := fun σ H1 H e E Q q =>
  h σ H1 H e E _ fun H2 H' vs s dv => ⟨H2, ds, w, s.s2, by rw [List.append_nil]; exact dv, hr, fun H3 H'' D o s2 hD hn ho hw => q H3 H'' D o (s.trans s2) (s.s3.free hD) hn ho hw⟩
theorem NewO.ev (h : NewO S te G w) : EvD S te G w.dat := fun σ H1 H e E Q q => h σ H1 H e E Q fun H2 H' D o s hD hn ho hw =>
  q (upd H2 D o) H' _ ⟨s.s1.trans (same_new hn), fun b u z => by
    by_cases y : b = D
    · subst y
      rw [upd_same] at z
      rw [← z]
      exact ho
    · rw [upd_ne y] at z
      exact s.s2 _ _ z, s.s3, fun b u z => by
    by_cases y : b = D
    · subst y
      exact .inr hD
    · rw [upd_ne y] at z
      exact s.fr b u z⟩ (hw.dt hn)
theorem own_ok {Pr : Program} {ww : World} {mg : Str → Option Value} {base : Heap} {x qual : Str} {params : Arguments} {body : List Stmt} {scope : Scope} {dvs : List V} {kws : List (Str × V)} {f : Addr} {fd : FuncData}
    {CX : CXT} {N ps : List Str} {k : Nat} {R : List Dat → Own → Prop} (F : FunD S.K x qual params body scope dvs kws f fd) (sc : FnScope N ps scope) (len : ∀ ds d, R ds d → ds.length = ps.length)
    (hbody : ∀ (cdv : Value) (A : Around) (outer : List Env) (s : Shared) (H : Hp) (E : XK), Room k (A.deeper (envOfC qual scope s.heap.objs.size f cdv)) →
      ∃ t, PSs (cxOf CX Pr ww S.K mg base N qual scope f cdv A outer s H E).nox body t ∧ ∀ ds d, R ds d → RunW S t (start0 N ds) d) : FnOk Pr ww S.K mg base CX (k + 1) f fd ps (spO S R) := by
  refine FunD.ok F sc (fun vs H Q E h => ?_) (fun cdv A outer s H vs Q E hr h => ?_)
  · obtain ⟨H1, ds, d, _, dv, r, _⟩ := h
    rw [dv.length]
    exact len ds d r
  · obtain ⟨H1, ds, d, e, dv, r, q⟩ := h
    obtain ⟨t, ht, hR⟩ := hbody cdv A outer s H E hr
    exact ⟨t, ht.nox, hR ds d r _ H1 H _ e (env_start dv) q⟩
end
end Ty
set_option Elab.async false
set_option linter.all false
set_option maxRecDepth 100000
set_option maxHeartbeats 4000000
/-! The frame asked, and its equations. -/
namespace Ty
open PySem PySem.Spec PyProof.Rows L2
def spotsD (F : Frm) : List (Key × Dat) := F.pins.map fun p => (Sum.inr p.name, spotD p)
def keptD (F : Frm) : List (Key × Dat) := F.pins.map fun p => (Sum.inr p.name, waysD p.ways)
def jointsD (F : Frm) : List (Key × Dat) := F.bars.map fun b => (Sum.inr b.1, Dat.tup [.str b.2.1, .str b.2.2])
def Frm.pinAt (F : Frm) (x : Str) : Option Pin := F.pins.find? fun p => decide (p.name = x)
def Frm.barAt (F : Frm) (x : Str) : Option (Str × Str × Str) := F.bars.find? fun b => decide (b.1 = x)
theorem find_valD {α : Type} (nm : α → Str) (f : α → Dat) (x : Str) : ∀ l : List α, valD (l.map fun a => ((Sum.inr (nm a) : Key), f a)) (Sum.inr x) = (l.find? fun a => decide (nm a = x)).map f
  | [] => rfl
  | a :: l => by
    have ih := find_valD nm f x l
    unfold valD at ih ⊢
    rw [List.map_cons, List.find?_cons, List.find?_cons]
    by_cases e : nm a = x
    · have e2 : decide ((Sum.inr (nm a) : Key) = Sum.inr x) = true := by simp [e]
      simp [e]
    · have e2 : decide ((Sum.inr (nm a) : Key) = Sum.inr x) = false := by simp [e]
      simp only [e2, e, decide_false]
      exact ih
theorem spots_val (F : Frm) (x : Str) : valD (spotsD F) (.inr x) = (F.pinAt x).map spotD := find_valD Pin.name spotD x F.pins
theorem kept_val (F : Frm) (x : Str) : valD (keptD F) (.inr x) = (F.pinAt x).map fun p => waysD p.ways := find_valD Pin.name (fun p => waysD p.ways) x F.pins
theorem joints_val (F : Frm) (x : Str) : valD (jointsD F) (.inr x) = (F.barAt x).map fun b => Dat.tup [.str b.2.1, .str b.2.2] := find_valD (fun b : Str × Str × Str => b.1) (fun b => Dat.tup [.str b.2.1, .str b.2.2]) x F.bars
section
variable {K : PySem.W.Frag} {mg : Str → Option Value} {S : Sys} {te td ty tx ta : TE} {G : Gam} {F : Frm} {d e : Dat}
theorem ed_spots (T : Txt K mg) (h : EvD (sysOf K) te G (.frm F)) : EvD (sysOf K) (tFld K te "spots") G (.dK (spotsD F)) := fun σ H1 H e E Q q => h σ H1 H e E _ fun H2 H' v s dv => by
  cases dv with
  | @frm a dx sp k j F _ _ _ q0 q1 q2 q3 a1 a2 a3 => exact ⟨a, _, dx, _, .ref sp, rfl, s.s2 _ _ q0, T.cl_Frame, T.a_Frame_spots, rfl, q H2 H' _ s (.dK q1 a1)⟩
theorem ed_kept (T : Txt K mg) (h : EvD (sysOf K) te G (.frm F)) : EvD (sysOf K) (tFld K te "kept") G (.dK (keptD F)) := fun σ H1 H e E Q q => h σ H1 H e E _ fun H2 H' v s dv => by
  cases dv with
  | @frm a dx sp k j F _ _ _ q0 q1 q2 q3 a1 a2 a3 => exact ⟨a, _, dx, _, .ref k, rfl, s.s2 _ _ q0, T.cl_Frame, T.a_Frame_kept, rfl, q H2 H' _ s (.dK q2 a2)⟩
theorem ed_joints (T : Txt K mg) (h : EvD (sysOf K) te G (.frm F)) : EvD (sysOf K) (tFld K te "joints") G (.dK (jointsD F)) := fun σ H1 H e E Q q => h σ H1 H e E _ fun H2 H' v s dv => by
  cases dv with
  | @frm a dx sp k j F _ _ _ q0 q1 q2 q3 a1 a2 a3 => exact ⟨a, _, dx, _, .ref j, rfl, s.s2 _ _ q0, T.cl_Frame, T.a_Frame_joints, rfl, q H2 H' _ s (.dK q3 a3)⟩
theorem ed_listKeys {ds : List (Key × Dat)} (h : EvD S te G (.dK ds)) : EvD S (tListKeys te) G (.lst (ds.map fun kv => keyD kv.1)) := fun σ H1 H e E Q q => h σ H1 H e E _ fun H2 H' v s dv => by
  cases dv with
  | dK ha hd => exact ⟨_, _, rfl, s.s2 _ _ ha, fun l hl => q _ _ _ (s.trans (Step.new s.s2 hl)) (.lst upd_same (keysD_ok hd _))⟩
theorem ed_din {ds : List (Key × Dat)} {k : Key} (hy : EvD S ty G (keyD k)) (h : EvD S td G (.dK ds)) : EvD S (tDIn ty td) G (.bl (valD ds k).isSome) := fun σ H1 H e E Q q => hy σ H1 H e E _ fun H2 H' y s dy => h σ H2 H' s.s2 (E.mono s.s1) _ fun H3 H'' v s2 dv => by
  cases dv with
  | @dK _ xs _ ha hd =>
    rw [keyV_of dy]
    refine ⟨_, _, rfl, DGet.k (s2.s2 _ _ ha), ?_⟩
    have e : (valV xs k).isSome = (valD ds k).isSome := by
      rcases hd.val k with ⟨h1, h2⟩ | ⟨u, x, h1, h2, _⟩ <;> rw [h1, h2] <;> rfl
    rw [e]
    exact q _ _ _ (s.trans s2) (.bl _)
theorem ed_dnotin {ds : List (Key × Dat)} {k : Key} (hy : EvD S ty G (keyD k)) (h : EvD S td G (.dK ds)) : EvD S (tDNotIn ty td) G (.bl (!(valD ds k).isSome)) := fun σ H1 H e E Q q => hy σ H1 H e E _ fun H2 H' y s dy => h σ H2 H' s.s2 (E.mono s.s1) _ fun H3 H'' v s2 dv => by
  cases dv with
  | @dK _ xs _ ha hd =>
    rw [keyV_of dy]
    refine ⟨_, _, rfl, DGet.k (s2.s2 _ _ ha), ?_⟩
    have e : (valV xs k).isSome = (valD ds k).isSome := by
      rcases hd.val k with ⟨h1, h2⟩ | ⟨u, x, h1, h2, _⟩ <;> rw [h1, h2] <;> rfl
    rw [e]
    exact q _ _ _ (s.trans s2) (.bl _)
theorem ed_dget {ds : List (Key × Dat)} {k : Key} (h : EvD S td G (.dK ds)) (hy : EvD S ty G (keyD k)) (hk : valD ds k = some d) : EvD S (tDGet td ty) G d := fun σ H1 H e E Q q => h σ H1 H e E _ fun H2 H' x s dx => hy σ H2 H' s.s2 (E.mono s.s1) _ fun H3 H'' y s2 dy => by
  cases dx with
  | dK ha hd =>
    rw [keyV_of dy]
    rcases hd.val k with ⟨h1, h2⟩ | ⟨u, x, h1, h2, h3⟩
    · rw [hk] at h2
      cases h2
    · rw [hk] at h2
      cases h2
      exact ⟨_, u, rfl, by rw [← h1]; exact DGet.k (s2.s3 _ _ (s.s2 _ _ ha)), q _ _ _ (s.trans s2) (h3.mono s2.s1)⟩
/-- d.get(k, x) of a dict with tuple keys -/
theorem ed_tget2 {ds : List (List Key × Dat)} {ks : List Key} (h : EvD S td G (.dT ds)) (hy : EvD S ty G (.kt ks)) (hx : EvD S tx G e) : EvD S (tDGet2 td ty tx) G ((valD ds ks).getD e) := fun σ H1 H e E Q q => h σ H1 H e E _ fun H2 H' x s dx => by
  cases dx with
  | dT ha hd =>
    refine ⟨_, rfl, .inr ⟨_, .inl (s.s2 _ _ ha)⟩, ?_⟩
    refine hy σ H2 H' s.s2 (E.mono s.s1) _ fun H3 H'' y s2 dy => hx σ H3 H'' s2.s2 (E.mono (s.s1.trans s2.s1)) _ fun H4 H4' z s3 dz => ?_
    cases dy with
    | kt hb =>
      refine ⟨_, DGet.t (s3.s3 _ _ (s2.s3 _ _ (s.s2 _ _ ha))) (s3.s3 _ _ (s2.s2 _ _ hb)), ?_⟩
      rcases hd.val ks with ⟨h1, h2⟩ | ⟨u, x, h1, h2, h3⟩
      · rw [h1]
        rw [h2] at q
        exact q _ _ _ ((s.trans s2).trans s3) dz
      · rw [h1]
        rw [h2] at q
        exact q _ _ _ ((s.trans s2).trans s3) (h3.mono (s2.s1.trans s3.s1))
/-- d.get(k, x) -/
theorem ed_kget2 {ds : List (Key × Dat)} {k : Key} (h : EvD S td G (.dK ds)) (hy : EvD S ty G (keyD k)) (hx : EvD S tx G e) : EvD S (tDGet2 td ty tx) G ((valD ds k).getD e) := fun σ H1 H e E Q q => h σ H1 H e E _ fun H2 H' x s dx => by
  cases dx with
  | dK ha hd =>
    refine ⟨_, rfl, .inl ⟨_, .inl (s.s2 _ _ ha)⟩, ?_⟩
    refine hy σ H2 H' s.s2 (E.mono s.s1) _ fun H3 H'' y s2 dy => hx σ H3 H'' s2.s2 (E.mono (s.s1.trans s2.s1)) _ fun H4 H4' z s3 dz => ?_
    rw [keyV_of dy]
    refine ⟨_, DGet.k (s3.s3 _ _ (s2.s3 _ _ (s.s2 _ _ ha))), ?_⟩
    rcases hd.val k with ⟨h1, h2⟩ | ⟨u, x, h1, h2, h3⟩
    · rw [h1]
      rw [h2] at q
      exact q _ _ _ ((s.trans s2).trans s3) dz
    · rw [h1]
      rw [h2] at q
      exact q _ _ _ ((s.trans s2).trans s3) (h3.mono (s2.s1.trans s3.s1))
/-- a new tuple of keys -/
theorem ed_kt {t : TA} {ks : List Key} (h : EvA S t G (ks.map keyD)) (hl : ks.length ≤ 1000 := by first | exact Nat.le_of_ble_eq_true rfl | simp) : EvD S (tTup t) G (.kt ks) := fun σ H1 H e E Q q =>
  h σ H1 H e E _ fun H2 H' vs s1 d1 => ⟨by rw [d1.length, List.length_map]; exact Nat.le_of_lt (small1000 hl), fun p hp => q _ _ _ (s1.trans (Step.new s1.s2 hp)) (.kt (by rw [upd_same, keyVs_of d1]))⟩
end
/-! the mirror -/
def pairsK (F : Frm) : List (List Key) := F.pins.flatMap fun p => [[.inr p.name, .inl 0], [.inr p.name, .inl 1]]
abbrev Draw := Str × Num × Num
def drawD (w : Draw) : Dat := .tup [.str w.1, way w.2]
def putDraw (kvs : List (List Key × Num)) (w : Draw) : List (List Key × Num) := putD (putD kvs [.inr w.1, .inl 0] w.2.1) [.inr w.1, .inl 1] w.2.2
def colBy (ps : List (List Key)) (dr : List Draw) : List Num := ps.map fun ks => (valD (dr.foldl putDraw []) ks).getD (0, 1)
def wayCols (F : Frm) : List (List Num) := F.pins.flatMap fun p => p.ways.map fun w => colBy (pairsK F) [(p.name, w)]
def nilPin : Pin := ⟨"", (0, 1), (0, 1), []⟩
def Frm.pin (F : Frm) (x : Str) : Pin := (F.pinAt x).getD nilPin
def armOf (F : Frm) (x y : Str) : Num × Num := (diffOf (F.pin y).x (F.pin x).x, diffOf (F.pin y).y (F.pin x).y)
def barCol (F : Frm) (x y : Str) (arm : Num × Num) : List Num := colBy (pairsK F) [(x, arm), (y, (turnOf arm.1, turnOf arm.2))]
def barCols (F : Frm) : List (List Num) := F.bars.map fun b => barCol F b.2.1 b.2.2 (armOf F b.2.1 b.2.2)
def Good (n : Nat) (q : Num) : Prop := Sz n q ∧ 0 < q.2
structure FrmOk (F : Frm) : Prop where
  pn : (F.pins.map Pin.name).Nodup
  bn : (F.bars.map (·.1)).Nodup
  be : ∀ b ∈ F.bars, (∃ p, F.pinAt b.2.1 = some p) ∧ ∃ p, F.pinAt b.2.2 = some p
  pl : F.pins.length ≤ 24
  bl : F.bars.length ≤ 60
  wl : ∀ p ∈ F.pins, p.ways.length ≤ 2
  gd : ∀ p ∈ F.pins, Good 64 p.x ∧ Good 64 p.y ∧ ∀ w ∈ p.ways, Good 64 w.1 ∧ Good 64 w.2
def colD (c : List Num) : Dat := .lst (c.map num)
def colsD (c : List (List Num)) : Dat := .lst (c.map colD)
theorem pinAt_mem {F : Frm} {x : Str} {p : Pin} (h : F.pinAt x = some p) : p ∈ F.pins ∧ p.name = x := ⟨List.mem_of_find?_eq_some h, of_decide_eq_true (List.find?_some (p := fun p : Pin => decide (p.name = x)) h)⟩
theorem pinAt_of {F : Frm} (h : (F.pins.map Pin.name).Nodup) {p : Pin} (hp : p ∈ F.pins) : F.pinAt p.name = some p := by
  unfold Frm.pinAt
  generalize F.pins = l at h hp
  induction l with
  | nil => cases hp
  | cons q l ih =>
    rw [List.map_cons] at h
    obtain ⟨h1, h2⟩ := List.nodup_cons.mp h
    rw [List.find?_cons]
    rcases List.mem_cons.mp hp with e | hp
    · subst e
      simp
    · have ne : ¬ q.name = p.name := fun e => h1 (List.mem_map.mpr ⟨p, hp, e.symm⟩)
      rw [decide_eq_false ne]
      exact ih h2 hp
theorem barAt_of {F : Frm} (h : (F.bars.map (·.1)).Nodup) {b : Str × Str × Str} (hp : b ∈ F.bars) : F.barAt b.1 = some b := by
  unfold Frm.barAt
  generalize F.bars = l at h hp
  induction l with
  | nil => cases hp
  | cons q l ih =>
    rw [List.map_cons] at h
    obtain ⟨h1, h2⟩ := List.nodup_cons.mp h
    rw [List.find?_cons]
    rcases List.mem_cons.mp hp with e | hp
    · subst e
      simp
    · have ne : ¬ q.1 = b.1 := fun e => h1 (List.mem_map.mpr ⟨b, hp, e.symm⟩)
      rw [decide_eq_false ne]
      exact ih h2 hp
section
variable {Pr : Program} {w : World} {K : PySem.W.Frag} {mg : Str → Option Value} {base : Heap}
def namesD (F : Frm) : Dat := .lst (F.pins.map fun p => .str p.name)
def bnamesD (F : Frm) : Dat := .lst (F.bars.map fun b => .str b.1)
def R_Frame_pins (ds : List Dat) (d : Dat) : Prop := ∃ F, ds = [.frm F] ∧ d = namesD F
theorem ok_Frame_pins (T : Txt K mg) (B : Bas Pr base) : FnOk Pr w K mg base CX0 40 (He.ma K (He.ga K "Frame") "pins") (fdAt K (He.ma K (He.ga K "Frame") "pins")) ["self"] (spF (sysOf K) R_Frame_pins) := by
  refine pure_ok (S := sysOf K) (k := 39) T.F_Frame_pins sc_Frame_pins (fun ds d h => ?_) (fun cdv A outer s H E hr => ?_)
  · obtain ⟨F, rfl, _⟩ := h
    rfl
  · refine ⟨_, (pss_one (ps_ret (pe_listKeys rfl (pe_fld (pv 0) rfl) (by rfl) T.n_list (by decide +kernel)))), fun ds d h => ?_⟩
    obtain ⟨F, rfl, rfl⟩ := h
    refine rd_ret ((ed_listKeys (ed_spots T (ed_var rfl))).to ?_) (.inl rfl)
    unfold spotsD namesD
    rw [List.map_map]
    rfl
def R_Frame_bars (ds : List Dat) (d : Dat) : Prop := ∃ F, ds = [.frm F] ∧ d = bnamesD F
theorem ok_Frame_bars (T : Txt K mg) (B : Bas Pr base) : FnOk Pr w K mg base CX0 40 (He.ma K (He.ga K "Frame") "bars") (fdAt K (He.ma K (He.ga K "Frame") "bars")) ["self"] (spF (sysOf K) R_Frame_bars) := by
  refine pure_ok (S := sysOf K) (k := 39) T.F_Frame_bars sc_Frame_bars (fun ds d h => ?_) (fun cdv A outer s H E hr => ?_)
  · obtain ⟨F, rfl, _⟩ := h
    rfl
  · refine ⟨_, (pss_one (ps_ret (pe_listKeys rfl (pe_fld (pv 0) rfl) (by rfl) T.n_list (by decide +kernel)))), fun ds d h => ?_⟩
    obtain ⟨F, rfl, rfl⟩ := h
    refine rd_ret ((ed_listKeys (ed_joints T (ed_var rfl))).to ?_) (.inl rfl)
    unfold jointsD bnamesD
    rw [List.map_map]
    rfl
def R_Frame_place (ds : List Dat) (d : Dat) : Prop := ∃ F x p, ds = [.frm F, .str x] ∧ F.pinAt x = some p ∧ d = spotD p
theorem ok_Frame_place (T : Txt K mg) (B : Bas Pr base) : FnOk Pr w K mg base CX0 40 (He.ma K (He.ga K "Frame") "place") (fdAt K (He.ma K (He.ga K "Frame") "place")) ["self", "pin"] (spF (sysOf K) R_Frame_place) := by
  refine pure_ok (S := sysOf K) (k := 39) T.F_Frame_place sc_Frame_place (fun ds d h => ?_) (fun cdv A outer s H E hr => ?_)
  · obtain ⟨F, x, p, rfl, _⟩ := h
    rfl
  · refine ⟨_, (pss_cons (ps_if (pt_cmp (pc_dnotin (hu_of hr) (pv 1) (pe_fld (pv 0) rfl))) (pss_one ps_never) pss_nil) (pss_one (ps_ret (pe_dget (hu_of hr) (pe_fld (pv 0) rfl) (pv 1) (fun _ _ => rfl))))), fun ds d h => ?_⟩
    obtain ⟨F, x, p, rfl, hp, rfl⟩ := h
    have e := spots_val F x
    rw [hp] at e
    refine rd_seq (rd_if (b := false) (et_B ((ed_dnotin (k := .inr x) (ed_var rfl) (ed_spots T (ed_var rfl))).to (by rw [e]; rfl))) (fun h => by cases h) fun _ => rd_next ?_)
    exact rd_ret (ed_dget (k := .inr x) (ed_spots T (ed_var rfl)) (ed_var rfl) e) (.inl rfl)
def R_Frame_ways (ds : List Dat) (d : Dat) : Prop := ∃ F x p, ds = [.frm F, .str x] ∧ F.pinAt x = some p ∧ d = waysD p.ways
theorem ok_Frame_ways (T : Txt K mg) (B : Bas Pr base) : FnOk Pr w K mg base CX0 40 (He.ma K (He.ga K "Frame") "ways") (fdAt K (He.ma K (He.ga K "Frame") "ways")) ["self", "pin"] (spF (sysOf K) R_Frame_ways) := by
  refine pure_ok (S := sysOf K) (k := 39) T.F_Frame_ways sc_Frame_ways (fun ds d h => ?_) (fun cdv A outer s H E hr => ?_)
  · obtain ⟨F, x, p, rfl, _⟩ := h
    rfl
  · refine ⟨_, (pss_cons (ps_if (pt_cmp (pc_dnotin (hu_of hr) (pv 1) (pe_fld (pv 0) rfl))) (pss_one ps_never) pss_nil) (pss_one (ps_ret (pe_callTy call_list_of (by rfl) T.n_list (by decide +kernel) (pa_cons (pe_dget (hu_of hr) (pe_fld (pv 0) rfl) (pv 1) (fun _ _ => rfl)) pa_nil))))), fun ds d h => ?_⟩
    obtain ⟨F, x, p, rfl, hp, rfl⟩ := h
    have e := spots_val F x
    have e2 := kept_val F x
    rw [hp] at e e2
    refine rd_seq (rd_if (b := false) (et_B ((ed_dnotin (k := .inr x) (ed_var rfl) (ed_spots T (ed_var rfl))).to (by rw [e]; rfl))) (fun h => by cases h) fun _ => rd_next ?_)
    exact rd_ret (ed_cb (ea_cons (ed_dget (k := .inr x) (ed_kept T (ed_var rfl)) (ed_var rfl) e2) ea_nil) rc_list) (.inl rfl)
def R_Frame_ends (ds : List Dat) (d : Dat) : Prop := ∃ F x b, ds = [.frm F, .str x] ∧ F.barAt x = some b ∧ d = .tup [.str b.2.1, .str b.2.2]
theorem ok_Frame_ends (T : Txt K mg) (B : Bas Pr base) : FnOk Pr w K mg base CX0 40 (He.ma K (He.ga K "Frame") "ends") (fdAt K (He.ma K (He.ga K "Frame") "ends")) ["self", "bar"] (spF (sysOf K) R_Frame_ends) := by
  refine pure_ok (S := sysOf K) (k := 39) T.F_Frame_ends sc_Frame_ends (fun ds d h => ?_) (fun cdv A outer s H E hr => ?_)
  · obtain ⟨F, x, p, rfl, _⟩ := h
    rfl
  · refine ⟨_, (pss_cons (ps_if (pt_cmp (pc_dnotin (hu_of hr) (pv 1) (pe_fld (pv 0) rfl))) (pss_one ps_never) pss_nil) (pss_one (ps_ret (pe_dget (hu_of hr) (pe_fld (pv 0) rfl) (pv 1) (fun _ _ => rfl))))), fun ds d h => ?_⟩
    obtain ⟨F, x, p, rfl, hp, rfl⟩ := h
    have e := joints_val F x
    rw [hp] at e
    refine rd_seq (rd_if (b := false) (et_B ((ed_dnotin (k := .inr x) (ed_var rfl) (ed_joints T (ed_var rfl))).to (by rw [e]; rfl))) (fun h => by cases h) fun _ => rd_next ?_)
    exact rd_ret (ed_dget (k := .inr x) (ed_joints T (ed_var rfl)) (ed_var rfl) e) (.inl rfl)
end
end Ty
set_option Elab.async false
set_option linter.all false
set_option maxRecDepth 100000
set_option maxHeartbeats 4000000
/-! The equations' defs. -/
namespace Ty
open PySem PySem.Spec PyProof.Rows L2
theorem at_ofD {α : Type} {xs : List α} {z : Int} {j : Nat} {v : α} (e : z = (j : Int)) (h : xs[j]? = some v) : atI xs z = some v := by
  rw [e]
  exact atI_nat h
theorem take_more {α : Type} {l : List α} {k : Nat} {x : α} (h : l[k]? = some x) : l.take (k + 1) = l.take k ++ [x] := by
  rw [List.take_succ, h]
  rfl
theorem flat_more {α β : Type} {l : List α} {k : Nat} {x : α} (f : α → List β) (h : l[k]? = some x) : (l.take (k + 1)).flatMap f = (l.take k).flatMap f ++ f x := by
  rw [take_more h, List.flatMap_append]
  simp
theorem map_get {α β : Type} {f : α → β} {l : List α} {k : Nat} {d : β} (h : (l.map f)[k]? = some d) : ∃ x, l[k]? = some x ∧ d = f x := by
  rw [List.getElem?_map] at h
  cases e : l[k]? with
  | none => rw [e] at h; cases h
  | some x =>
    rw [e] at h
    exact ⟨x, rfl, (Option.some.inj h).symm⟩
theorem get_mem {α : Type} {l : List α} {k : Nat} {x : α} (h : l[k]? = some x) : x ∈ l := List.mem_of_getElem? h
theorem flat_len {α β : Type} (f : α → List β) (n : Nat) : ∀ l : List α, (∀ x ∈ l, (f x).length ≤ n) → (l.flatMap f).length ≤ l.length * n
  | [], _ => by simp
  | a :: l, h => by
    have ih := flat_len f n l fun x hx => h x (List.mem_cons_of_mem _ hx)
    have := h a List.mem_cons_self
    rw [List.flatMap_cons, List.length_append, List.length_cons, Nat.add_mul]
    omega
theorem take_mem {α : Type} {l : List α} {k : Nat} {x : α} (h : x ∈ l.take k) : x ∈ l := List.mem_of_mem_take h
theorem putD_len {κ α : Type} [DecidableEq κ] (ds : List (κ × α)) (k : κ) (d : α) : (putD ds k d).length ≤ ds.length + 1 := by
  unfold putD
  split
  · rw [List.length_map]
    omega
  · rw [List.length_append]
    exact Nat.le_refl _
theorem draw_len : ∀ (dr : List Draw) (kvs : List (List Key × Num)), (dr.foldl putDraw kvs).length ≤ kvs.length + 2 * dr.length
  | [], kvs => by simp
  | w :: dr, kvs => by
    have ih := draw_len dr (putDraw kvs w)
    have h1 := putD_len kvs [.inr w.1, .inl 0] w.2.1
    have h2 := putD_len (putD kvs [.inr w.1, .inl 0] w.2.1) [.inr w.1, .inl 1] w.2.2
    rw [List.foldl_cons, List.length_cons]
    unfold putDraw at ih ⊢
    omega
section
variable {Pr : Program} {w : World} {K : PySem.W.Frag} {mg : Str → Option Value} {base : Heap}
def R_pairs_of (ds : List Dat) (d : Dat) : Prop := ∃ F : Frm, ds = [.frm F] ∧ F.pins.length ≤ 24 ∧ d = .lst ((pairsK F).map .kt)
theorem ok_pairs_of (T : Txt K mg) (B : Bas Pr base) : FnOk Pr w K mg base CX0 41 (He.ga K "pairs_of") (fdAt K (He.ga K "pairs_of")) ["frame"] (spF (sysOf K) R_pairs_of) := by
  refine pure_ok (S := sysOf K) (k := 40) T.F_pairs_of sc_pairs_of (fun ds d h => ?_) (fun cdv A outer s H E hr => ?_)
  · obtain ⟨F, rfl, _⟩ := h
    rfl
  · refine ⟨_, (pss_cons (ps_set (i := 1) (sc_pairs_of).nd rfl (Or.inl rfl) (pe_lst pa_nil)) (pss_cons (ps_for PassesOwn.never rfl (pi_list (pe_meth0 (pv 0) T.cl_Frame T.m_Frame_pins (ok_Frame_pins T B) (hr.mono (by decide)) T.b_Frame_pins .nil pass0)) (pg_name (i := 2) (sc_pairs_of).nd rfl (Or.inl rfl)) (pss_cons (ps_expr (pe_bm PySem.F.plainAttrs_list PySem.F.slot_list_append PySem.F.type_list_append mt_append (pv 1) (pa_cons (pe_tup (pa_cons (pv 2) (pa_cons pe_int pa_nil))) pa_nil))) (pss_one (ps_expr (pe_bm PySem.F.plainAttrs_list PySem.F.slot_list_append PySem.F.type_list_append mt_append (pv 1) (pa_cons (pe_tup (pa_cons (pv 2) (pa_cons pe_int pa_nil))) pa_nil)))))) (pss_one (ps_ret (pv 1))))), fun ds d h => ?_⟩
    obtain ⟨F, rfl, hl, rfl⟩ := h
    refine rd_build (new_lst ea_nil) (Nat.le_of_ble_eq_true rfl) ?_
    refine rm_for_list (ds := F.pins.map fun p => .str p.name) (ed_meth (ed_var rfl) ea_nil ⟨F, rfl, rfl⟩).l (fun k G w => ∃ x, G = [some (.frm F), none, x] ∧ w = .L (((F.pins.take k).flatMap fun p => [[.inr p.name, .inl 0], [.inr p.name, .inl 1]]).map .kt)) ⟨_, rfl, rfl⟩ ?_ ?_
    · rintro k d G w hd ⟨x, rfl, rfl⟩
      obtain ⟨p, hp, rfl⟩ := map_get hd
      have hb : (((F.pins.take k).flatMap fun p => [[(.inr p.name : Key), .inl 0], [.inr p.name, .inl 1]]).map Dat.kt).length ≤ 48 := by
        rw [List.length_map]
        refine Nat.le_trans (flat_len _ 2 _ fun _ _ => Nat.le_refl _) ?_
        rw [List.length_take]
        omega
      refine ⟨_, tm_name (by decide), rm_seq (rm_append (EvD.l (ed_kt (ks := [.inr p.name, .inl 0]) (ea_cons (ed_var rfl) (ea_cons ed_int ea_nil)))) (by omega) ?_)⟩
      refine rm_append (EvD.l (ed_kt (ks := [.inr p.name, .inl 1]) (ea_cons (ed_var rfl) (ea_cons ed_int ea_nil)))) (by rw [List.length_append]; simp only [List.length_cons, List.length_nil]; omega) ⟨_, rfl, ?_⟩
      rw [flat_more _ hp, List.map_append, List.append_assoc]
      rfl
    · rintro G w ⟨x, rfl, rfl⟩
      refine rd_ret (ed_var rfl) (.inl ?_)
      rw [List.length_map, List.take_length]
      rfl
def R_column_by (ds : List Dat) (d : Dat) : Prop := ∃ (ps : List (List Key)) (dr : List Draw), ds = [.lst (ps.map .kt), .lst (dr.map drawD)] ∧ ps.length ≤ 1000 ∧ dr.length ≤ 1000 ∧ d = colD (colBy ps dr)
def rawT (kvs : List (List Key × Num)) : List (List Key × Dat) := kvs.map fun p => (p.1, num p.2)
theorem ok_column_by (T : Txt K mg) (B : Bas Pr base) : FnOk Pr w K mg base CX0 40 (He.ga K "column_by") (fdAt K (He.ga K "column_by")) ["pairs", "draws"] (spF (sysOf K) R_column_by) := by
  refine pure_ok (S := sysOf K) (k := 39) T.F_column_by sc_column_by (fun ds d h => ?_) (fun cdv A outer s H E hr => ?_)
  · obtain ⟨ps, dr, rfl, _⟩ := h
    rfl
  · refine ⟨_, (pss_cons (ps_set (i := 2) (sc_column_by).nd rfl (Or.inr rfl) pe_dnewT) (pss_cons (ps_for PassesOwn.never rfl (pi_list (pv 1)) (pg_tup rfl (pgs_cons (pg_name (i := 3) (sc_column_by).nd rfl (Or.inl rfl)) (pgs_cons (pg_name (i := 4) (sc_column_by).nd rfl (Or.inl rfl)) pgs_nil))) (pss_cons (ps_dput (hu_of hr) (pv 2) (pe_tup (pa_cons (pv 3) (pa_cons pe_int pa_nil))) (pe_ix ix_tup (pv 4) pe_int (fun _ _ => rfl)) rfl) (pss_one (ps_dput (hu_of hr) (pv 2) (pe_tup (pa_cons (pv 3) (pa_cons pe_int pa_nil))) (pe_ix ix_tup (pv 4) pe_int (fun _ _ => rfl)) rfl)))) (pss_one (ps_ret (pe_lc (own := [("pair", 5)]) (g := gName 5) (tt := tYes) rfl (sc_column_by).nd (pi_list (pv 0)) (blkOk_by (N := ["pairs", "draws", "drawn", "pin", "forces", "pair"]) (sc := defScope s_column_by) (by decide +kernel)) (fun _ _ _ _ _ => pg_name (i := 5) (sc_column_by).nd rfl (Or.inl rfl)) (fun _ _ _ _ _ => pts_nil) (fun _ _ _ _ _ => (pe_dget2 (hu_of hr) (pv 2) (pv 5) (pe_glob (v := .ref _) rfl T.g_NOUGHT_equations rfl) ⟨rfl, rfl, rfl, rfl⟩))))))), fun ds d h => ?_⟩
    obtain ⟨ps, dr, rfl, hl1, hl2, rfl⟩ := h
    refine rd_build new_T (Nat.le_of_ble_eq_true rfl) ?_
    refine rm_for_list (ds := dr.map drawD) (EvD.l (ed_var rfl)) (fun k G w => ∃ x y z, G = [some (.lst (ps.map .kt)), some (.lst (dr.map drawD)), none, x, y, z] ∧ w = .T (rawT ((dr.take k).foldl putDraw []))) ⟨_, _, _, rfl, rfl⟩ ?_ ?_
    · rintro k d G w hd ⟨x, y, z, rfl, rfl⟩
      obtain ⟨wd, hw, rfl⟩ := map_get hd
      have hb : (rawT ((dr.take k).foldl putDraw [])).length ≤ 2000 := by
        unfold rawT
        rw [List.length_map]
        refine Nat.le_trans (draw_len _ _) ?_
        rw [List.length_take]
        simp only [List.length_nil]
        omega
      have hb2 := putD_len (rawT ((dr.take k).foldl putDraw [])) [.inr wd.1, .inl 0] (num wd.2.1)
      refine ⟨_, tm_tup (ds := [.str wd.1, way wd.2]) (tms_cons (tm_name (by decide)) (tms_cons (tm_name (by decide)) tms_nil)), rm_seq (rm_tput (ks := [.inr wd.1, .inl 0]) (EvD.l (ed_op (ed_var rfl) ed_int (rv_ixT (ds := [num wd.2.1, num wd.2.2]) rfl))) (ea_cons (ed_var rfl) (ea_cons ed_int ea_nil)) (by omega) (Nat.le_of_ble_eq_true rfl) ?_)⟩
      refine rm_tput (ks := [.inr wd.1, .inl 1]) (EvD.l (ed_op (ed_var rfl) ed_int (rv_ixT (ds := [num wd.2.1, num wd.2.2]) rfl))) (ea_cons (ed_var rfl) (ea_cons ed_int ea_nil)) (by omega) (Nat.le_of_ble_eq_true rfl) ⟨_, _, _, rfl, ?_⟩
      rw [take_more hw, List.foldl_append]
      show Own.T _ = Own.T (rawT (putDraw ((dr.take k).foldl putDraw []) wd))
      unfold rawT putDraw
      rw [← putD_map, ← putD_map]
    · rintro G w ⟨x, y, z, rfl, rfl⟩
      rw [List.length_map, List.take_length]
      refine rd_ret (ed_lc_list (ds := ps.map .kt) (rs := (colBy ps dr).map num) (ed_var rfl) (by unfold colBy; simp) (by simpa using hl1) fun k d r hd hr => ?_) (.inl rfl)
      obtain ⟨ks, hk, rfl⟩ := map_get hd
      obtain ⟨q, hq, rfl⟩ := map_get hr
      unfold colBy at hq
      obtain ⟨ks', hk', rfl⟩ := map_get hq
      rw [hk] at hk'
      cases hk'
      refine (ed_tget2 (ed_var rfl) (ed_var rfl) (ed_NE T)).to ?_
      unfold rawT
      rw [valD_map num ks (dr.foldl putDraw [])]
      cases valD (dr.foldl putDraw []) ks <;> rfl
theorem pairs_len {F : Frm} (h : F.pins.length ≤ 24) : (pairsK F).length ≤ 48 := by
  unfold pairsK
  refine Nat.le_trans (flat_len _ 2 _ fun _ _ => Nat.le_refl _) ?_
  omega
def R_way_columns (ds : List Dat) (d : Dat) : Prop := ∃ F : Frm, ds = [.frm F] ∧ FrmOk F ∧ d = colsD (wayCols F)
theorem ok_way_columns (T : Txt K mg) (B : Bas Pr base) : FnOk Pr w K mg base CX0 42 (He.ga K "way_columns") (fdAt K (He.ga K "way_columns")) ["frame"] (spF (sysOf K) R_way_columns) := by
  refine pure_ok (S := sysOf K) (k := 41) T.F_way_columns sc_way_columns (fun ds d h => ?_) (fun cdv A outer s H E hr => ?_)
  · obtain ⟨F, rfl, _⟩ := h
    rfl
  · refine ⟨_, (pss_cons (ps_set (i := 1) (sc_way_columns).nd rfl (Or.inl rfl) (pe_call (ok_pairs_of T B) (hr.mono (by decide)) rfl T.g_pairs_of T.F_pairs_of.kp T.b_pairs_of .nil pass0 (pa_cons (pv 0) pa_nil))) (pss_cons (ps_set (i := 2) (sc_way_columns).nd rfl (Or.inl rfl) (pe_lst pa_nil)) (pss_cons (ps_for PassesOwn.never rfl (pi_list (pe_meth0 (pv 0) T.cl_Frame T.m_Frame_pins (ok_Frame_pins T B) (hr.mono (by decide)) T.b_Frame_pins .nil pass0)) (pg_name (i := 3) (sc_way_columns).nd rfl (Or.inl rfl)) (pss_one (ps_for PassesOwn.never rfl (pi_list (pe_meth (pv 0) T.cl_Frame T.m_Frame_ways (ok_Frame_ways T B) (hr.mono (by decide)) T.b_Frame_ways .nil pass0 (pa_cons (pv 3) pa_nil))) (pg_name (i := 4) (sc_way_columns).nd rfl (Or.inl rfl)) (pss_one (ps_expr (pe_bm PySem.F.plainAttrs_list PySem.F.slot_list_append PySem.F.type_list_append mt_append (pv 2) (pa_cons (pe_call (ok_column_by T B) (hr.mono (by decide)) rfl T.g_column_by T.F_column_by.kp T.b_column_by .nil pass0 (pa_cons (pv 1) (pa_cons (pe_lst (pa_cons (pe_tup (pa_cons (pv 3) (pa_cons (pv 4) pa_nil))) pa_nil)) pa_nil))) pa_nil))))))) (pss_one (ps_ret (pv 2)))))), fun ds d h => ?_⟩
    obtain ⟨F, rfl, ok, rfl⟩ := h
    have hp48 := pairs_len ok.pl
    refine rd_seq (rd_set (ed_call (ea_cons (ed_var rfl) ea_nil) ⟨F, rfl, ok.pl, rfl⟩) ?_)
    refine rd_build (new_lst ea_nil) (Nat.le_of_ble_eq_true rfl) ?_
    refine rm_for_list (ds := F.pins.map fun p => .str p.name) (ed_meth (ed_var rfl) ea_nil ⟨F, rfl, rfl⟩).l (fun k G w => ∃ x y, G = [some (.frm F), some (.lst ((pairsK F).map .kt)), none, x, y] ∧ w = .L (((F.pins.take k).flatMap fun p => p.ways.map fun w => colBy (pairsK F) [(p.name, w)]).map colD)) ⟨_, _, rfl, rfl⟩ ?_ ?_
    · rintro k d G w hd ⟨x, y, rfl, rfl⟩
      obtain ⟨p, hp, rfl⟩ := map_get hd
      have hb : (((F.pins.take k).flatMap fun p => p.ways.map fun w => colBy (pairsK F) [(p.name, w)]).map colD).length ≤ 48 := by
        rw [List.length_map]
        refine Nat.le_trans (flat_len _ 2 _ fun q hq => ?_) ?_
        · rw [List.length_map]
          exact ok.wl q (take_mem hq)
        · rw [List.length_take]
          have := ok.pl
          omega
      refine ⟨_, tm_name (by decide), rm_for_list (ds := p.ways.map way) (ed_meth (ed_var rfl) (ea_cons (ed_var rfl) ea_nil) ⟨F, p.name, p, rfl, pinAt_of ok.pn (get_mem hp), rfl⟩).l
        (fun j G w => ∃ y, G = [some (.frm F), some (.lst ((pairsK F).map .kt)), none, some (.str p.name), y] ∧ w = .L (((F.pins.take k).flatMap fun p => p.ways.map fun w => colBy (pairsK F) [(p.name, w)]).map colD ++ ((p.ways.take j).map fun w => colBy (pairsK F) [(p.name, w)]).map colD)) ⟨_, rfl, by simp⟩ ?_ ?_⟩
      · rintro j d G w hd ⟨y, rfl, rfl⟩
        obtain ⟨wy, hw, rfl⟩ := map_get hd
        refine ⟨_, tm_name (by decide), rm_append (EvD.l (ed_call (ea_cons (ed_var rfl) (ea_cons (ed_lst (ea_cons (ed_tup (ea_cons (ed_var rfl) (ea_cons (ed_var rfl) ea_nil))) ea_nil)) ea_nil)) ⟨pairsK F, [(p.name, wy)], rfl, by omega, Nat.le_of_ble_eq_true rfl, rfl⟩)) ?_ ⟨_, rfl, ?_⟩⟩
        · have h2 := ok.wl p (get_mem hp)
          have h3 : (((p.ways.take j).map fun w => colBy (pairsK F) [(p.name, w)]).map colD).length ≤ 2 := by
            rw [List.length_map, List.length_map, List.length_take]
            omega
          rw [List.length_append]
          omega
        · rw [take_more hw, List.map_append, List.map_append, List.append_assoc]
          rfl
      · rintro G w ⟨y, rfl, rfl⟩
        refine ⟨_, _, rfl, ?_⟩
        rw [List.length_map, List.take_length, flat_more _ hp, List.map_append]
    · rintro G w ⟨x, y, rfl, rfl⟩
      refine rd_ret (ed_var rfl) (.inl ?_)
      rw [List.length_map, List.take_length]
      rfl
theorem pin_of {F : Frm} {x : Str} {p : Pin} (h : F.pinAt x = some p) : F.pin x = p := by
  unfold Frm.pin
  rw [h]
  rfl
def R_arm_of (ds : List Dat) (d : Dat) : Prop := ∃ (F : Frm) (b : Str × Str × Str), ds = [.frm F, .str b.1] ∧ FrmOk F ∧ b ∈ F.bars ∧ d = way (armOf F b.2.1 b.2.2)
theorem ok_arm_of (T : Txt K mg) (B : Bas Pr base) : FnOk Pr w K mg base CX0 43 (He.ga K "arm_of") (fdAt K (He.ga K "arm_of")) ["frame", "bar"] (spF (sysOf K) R_arm_of) := by
  refine pure_ok (S := sysOf K) (k := 42) T.F_arm_of sc_arm_of (fun ds d h => ?_) (fun cdv A outer s H E hr => ?_)
  · obtain ⟨F, b, rfl, _⟩ := h
    rfl
  · refine ⟨_, (pss_cons (ps_asg (pe_meth (pv 0) T.cl_Frame T.m_Frame_ends (ok_Frame_ends T B) (hr.mono (by decide)) T.b_Frame_ends .nil pass0 (pa_cons (pv 1) pa_nil)) (pg_tup rfl (pgs_cons (pg_name (i := 2) (sc_arm_of).nd rfl (Or.inl rfl)) (pgs_cons (pg_name (i := 3) (sc_arm_of).nd rfl (Or.inl rfl)) pgs_nil)))) (pss_cons (ps_set (i := 4) (sc_arm_of).nd rfl (Or.inl rfl) (pe_meth (pv 0) T.cl_Frame T.m_Frame_place (ok_Frame_place T B) (hr.mono (by decide)) T.b_Frame_place .nil pass0 (pa_cons (pv 2) pa_nil))) (pss_cons (ps_set (i := 5) (sc_arm_of).nd rfl (Or.inl rfl) (pe_meth (pv 0) T.cl_Frame T.m_Frame_place (ok_Frame_place T B) (hr.mono (by decide)) T.b_Frame_place .nil pass0 (pa_cons (pv 3) pa_nil))) (pss_one (ps_ret (pe_tup (pa_cons (pe_call (ok_difference_of T B) (hr.mono (by decide)) rfl T.g_difference_of T.F_difference_of.kp T.b_difference_of .nil pass0 (pa_cons (pe_ix ix_tup (pv 5) pe_int (fun _ _ => rfl)) (pa_cons (pe_ix ix_tup (pv 4) pe_int (fun _ _ => rfl)) pa_nil))) (pa_cons (pe_call (ok_difference_of T B) (hr.mono (by decide)) rfl T.g_difference_of T.F_difference_of.kp T.b_difference_of .nil pass0 (pa_cons (pe_ix ix_tup (pv 5) pe_int (fun _ _ => rfl)) (pa_cons (pe_ix ix_tup (pv 4) pe_int (fun _ _ => rfl)) pa_nil))) pa_nil)))))))), fun ds d h => ?_⟩
    obtain ⟨F, b, rfl, ok, hb, rfl⟩ := h
    obtain ⟨⟨p, hp⟩, ⟨q, hq⟩⟩ := ok.be b hb
    obtain ⟨gpx, gpy, _⟩ := ok.gd p (pinAt_mem hp).1
    obtain ⟨gqx, gqy, _⟩ := ok.gd q (pinAt_mem hq).1
    refine rd_seq (rd_asg (ed_meth (ed_var rfl) (ea_cons (ed_var rfl) ea_nil) ⟨F, b.1, b, rfl, barAt_of ok.bn hb, rfl⟩) (tg_tup (ds := [.str b.2.1, .str b.2.2]) (tgs_cons tg_name (tgs_cons tg_name tgs_nil))) ?_)
    refine rd_seq (rd_set (ed_meth (ed_var rfl) (ea_cons (ed_var rfl) ea_nil) ⟨F, b.2.1, p, rfl, hp, rfl⟩) ?_)
    refine rd_seq (rd_set (ed_meth (ed_var rfl) (ea_cons (ed_var rfl) ea_nil) ⟨F, b.2.2, q, rfl, hq, rfl⟩) ?_)
    have e : ∀ {i : Nat} {r : Pin} {G : Gam}, G[i]? = some (some (spotD r)) → EvD (sysOf K) (tOp (rIxT K) (tVar i) (tC (.int 0))) G (num r.x) := fun h => ed_op (ed_var h) ed_int (rv_ixT (ds := [num _, num _]) rfl)
    have e' : ∀ {i : Nat} {r : Pin} {G : Gam}, G[i]? = some (some (spotD r)) → EvD (sysOf K) (tOp (rIxT K) (tVar i) (tC (.int 1))) G (num r.y) := fun h => ed_op (ed_var h) ed_int (rv_ixT (ds := [num _, num _]) rfl)
    refine rd_ret (ed_tup (ea_cons (ed_call (ea_cons (e (r := q) rfl) (ea_cons (e (r := p) rfl) ea_nil)) ⟨q.x, p.x, 64, 64, rfl, by have := gqx.2; omega, by have := gpx.2; omega, gqx.1, gpx.1, by decide, rfl⟩)
      (ea_cons (ed_call (ea_cons (e' (r := q) rfl) (ea_cons (e' (r := p) rfl) ea_nil)) ⟨q.y, p.y, 64, 64, rfl, by have := gqy.2; omega, by have := gpy.2; omega, gqy.1, gpy.1, by decide, rfl⟩) ea_nil))) (.inl ?_)
    unfold armOf
    rw [pin_of hp, pin_of hq]
    rfl
def R_bar_column (ds : List Dat) (d : Dat) : Prop := ∃ (F : Frm) (x y : Str) (arm : Num × Num), ds = [.frm F, .str x, .str y, way arm] ∧ F.pins.length ≤ 24 ∧ Sz 1000 arm.1 ∧ Sz 1000 arm.2 ∧ arm.1.2 ≠ 0 ∧ arm.2.2 ≠ 0 ∧ d = colD (barCol F x y arm)
theorem ok_bar_column (T : Txt K mg) (B : Bas Pr base) : FnOk Pr w K mg base CX0 44 (He.ga K "bar_column") (fdAt K (He.ga K "bar_column")) ["frame", "one", "other", "arm"] (spF (sysOf K) R_bar_column) := by
  refine pure_ok (S := sysOf K) (k := 43) T.F_bar_column sc_bar_column (fun ds d h => ?_) (fun cdv A outer s H E hr => ?_)
  · obtain ⟨F, x, y, arm, rfl, _⟩ := h
    rfl
  · refine ⟨_, (pss_cons (ps_set (i := 4) (sc_bar_column).nd rfl (Or.inl rfl) (pe_tup (pa_cons (pe_call (ok_turned_about T B) (hr.mono (by decide)) rfl T.g_turned_about T.F_turned_about.kp T.b_turned_about .nil pass0 (pa_cons (pe_ix ix_tup (pv 3) pe_int (fun _ _ => rfl)) pa_nil)) (pa_cons (pe_call (ok_turned_about T B) (hr.mono (by decide)) rfl T.g_turned_about T.F_turned_about.kp T.b_turned_about .nil pass0 (pa_cons (pe_ix ix_tup (pv 3) pe_int (fun _ _ => rfl)) pa_nil)) pa_nil)))) (pss_one (ps_ret (pe_call (ok_column_by T B) (hr.mono (by decide)) rfl T.g_column_by T.F_column_by.kp T.b_column_by .nil pass0 (pa_cons (pe_call (ok_pairs_of T B) (hr.mono (by decide)) rfl T.g_pairs_of T.F_pairs_of.kp T.b_pairs_of .nil pass0 (pa_cons (pv 0) pa_nil)) (pa_cons (pe_lst (pa_cons (pe_tup (pa_cons (pv 1) (pa_cons (pv 3) pa_nil))) (pa_cons (pe_tup (pa_cons (pv 2) (pa_cons (pv 4) pa_nil))) pa_nil))) pa_nil)))))), fun ds d h => ?_⟩
    obtain ⟨F, x, y, arm, rfl, hl, s1, s2, n1, n2, rfl⟩ := h
    have hp48 := pairs_len hl
    refine rd_seq (rd_set (ed_tup (ea_cons (ed_call (ea_cons (ed_op (ed_var rfl) ed_int (rv_ixT (ds := [num arm.1, num arm.2]) rfl)) ea_nil) ⟨arm.1, 1000, rfl, n1, s1, by decide, rfl⟩)
      (ea_cons (ed_call (ea_cons (ed_op (ed_var rfl) ed_int (rv_ixT (ds := [num arm.1, num arm.2]) rfl)) ea_nil) ⟨arm.2, 1000, rfl, n2, s2, by decide, rfl⟩) ea_nil))) ?_)
    exact rd_ret (ed_call (ea_cons (ed_call (ea_cons (ed_var rfl) ea_nil) ⟨F, rfl, hl, rfl⟩) (ea_cons (ed_lst (ea_cons (ed_tup (ea_cons (ed_var rfl) (ea_cons (ed_var rfl) ea_nil))) (ea_cons (ed_tup (ea_cons (ed_var rfl) (ea_cons (ed_var rfl) ea_nil))) ea_nil))) ea_nil))
      ⟨pairsK F, [(x, arm), (y, (turnOf arm.1, turnOf arm.2))], rfl, by omega, Nat.le_of_ble_eq_true rfl, rfl⟩) (.inl rfl)
theorem turn_ne {p : Num} (h : p.2 ≠ 0) : True := trivial
def R_bar_columns (ds : List Dat) (d : Dat) : Prop := ∃ F : Frm, ds = [.frm F] ∧ FrmOk F ∧ d = colsD (barCols F)
theorem div_gcd_ne {a b : Int} (h : b ≠ 0) : b / (Int.gcd a b : Int) ≠ 0 := by
  intro z
  have e := Int.ediv_mul_cancel (gcd_dvd a b).2
  rw [z, Int.zero_mul] at e
  exact h e.symm
theorem ratio_bot {a b : Int} (h : b ≠ 0) : 0 < (ratioOf a b).2 := by
  have g := gcd_ne (a := a) h
  have g0 : (0 : Int) < (Int.gcd a b : Int) := by omega
  obtain ⟨_, c, hc⟩ := gcd_dvd a b
  unfold ratioOf
  split
  · rename_i hb
    show 0 < b / (0 - (Int.gcd a b : Int))
    rw [Int.zero_sub, Int.ediv_neg]
    have : b / (Int.gcd a b : Int) < 0 := Int.ediv_neg_of_neg_of_pos hb g0
    omega
  · rename_i hb
    show 0 < b / (Int.gcd a b : Int)
    have h1 : 0 ≤ b / (Int.gcd a b : Int) := Int.ediv_nonneg (by omega) (by omega)
    have h2 := div_gcd_ne (a := a) h
    omega
theorem diff_bot {p q : Num} (hp : p.2 ≠ 0) (hq : q.2 ≠ 0) : 0 < (diffOf p q).2 := ratio_bot (Int.mul_ne_zero hp hq)
theorem arm_good {F : Frm} (ok : FrmOk F) {x y : Str} {p q : Pin} (hp : F.pinAt x = some p) (hq : F.pinAt y = some q) : Good 129 (armOf F x y).1 ∧ Good 129 (armOf F x y).2 := by
  obtain ⟨gpx, gpy, _⟩ := ok.gd p (pinAt_mem hp).1
  obtain ⟨gqx, gqy, _⟩ := ok.gd q (pinAt_mem hq).1
  unfold armOf
  rw [pin_of hp, pin_of hq]
  exact ⟨⟨sz_diff gqx.1 gpx.1, diff_bot (by have := gqx.2; omega) (by have := gpx.2; omega)⟩, ⟨sz_diff gqy.1 gpy.1, diff_bot (by have := gqy.2; omega) (by have := gpy.2; omega)⟩⟩
theorem ok_bar_columns (T : Txt K mg) (B : Bas Pr base) : FnOk Pr w K mg base CX0 45 (He.ga K "bar_columns") (fdAt K (He.ga K "bar_columns")) ["frame"] (spF (sysOf K) R_bar_columns) := by
  refine pure_ok (S := sysOf K) (k := 44) T.F_bar_columns sc_bar_columns (fun ds d h => ?_) (fun cdv A outer s H E hr => ?_)
  · obtain ⟨F, rfl, _⟩ := h
    rfl
  · refine ⟨_, (pss_cons (ps_set (i := 1) (sc_bar_columns).nd rfl (Or.inl rfl) (pe_lst pa_nil)) (pss_cons (ps_for PassesOwn.never rfl (pi_list (pe_meth0 (pv 0) T.cl_Frame T.m_Frame_bars (ok_Frame_bars T B) (hr.mono (by decide)) T.b_Frame_bars .nil pass0)) (pg_name (i := 2) (sc_bar_columns).nd rfl (Or.inl rfl)) (pss_cons (ps_asg (pe_meth (pv 0) T.cl_Frame T.m_Frame_ends (ok_Frame_ends T B) (hr.mono (by decide)) T.b_Frame_ends .nil pass0 (pa_cons (pv 2) pa_nil)) (pg_tup rfl (pgs_cons (pg_name (i := 3) (sc_bar_columns).nd rfl (Or.inl rfl)) (pgs_cons (pg_name (i := 4) (sc_bar_columns).nd rfl (Or.inl rfl)) pgs_nil)))) (pss_one (ps_expr (pe_bm PySem.F.plainAttrs_list PySem.F.slot_list_append PySem.F.type_list_append mt_append (pv 1) (pa_cons (pe_call (ok_bar_column T B) (hr.mono (by decide)) rfl T.g_bar_column T.F_bar_column.kp T.b_bar_column .nil pass0 (pa_cons (pv 0) (pa_cons (pv 3) (pa_cons (pv 4) (pa_cons (pe_call (ok_arm_of T B) (hr.mono (by decide)) rfl T.g_arm_of T.F_arm_of.kp T.b_arm_of .nil pass0 (pa_cons (pv 0) (pa_cons (pv 2) pa_nil))) pa_nil))))) pa_nil)))))) (pss_one (ps_ret (pv 1))))), fun ds d h => ?_⟩
    obtain ⟨F, rfl, ok, rfl⟩ := h
    refine rd_build (new_lst ea_nil) (Nat.le_of_ble_eq_true rfl) ?_
    refine rm_for_list (ds := F.bars.map fun b => .str b.1) (ed_meth (ed_var rfl) ea_nil ⟨F, rfl, rfl⟩).l (fun k G w => ∃ x y z, G = [some (.frm F), none, x, y, z] ∧ w = .L (((F.bars.take k).map fun b => barCol F b.2.1 b.2.2 (armOf F b.2.1 b.2.2)).map colD)) ⟨_, _, _, rfl, rfl⟩ ?_ ?_
    · rintro k d G w hd ⟨x, y, z, rfl, rfl⟩
      obtain ⟨b, hb, rfl⟩ := map_get hd
      have hm := get_mem hb
      obtain ⟨⟨p, hp⟩, ⟨q, hq⟩⟩ := ok.be b hm
      obtain ⟨g1, g2⟩ := arm_good ok hp hq
      refine ⟨_, tm_name (by decide), rm_seq (rm_asg (ed_meth (ed_var rfl) (ea_cons (ed_var rfl) ea_nil) ⟨F, b.1, b, rfl, barAt_of ok.bn hm, rfl⟩).l (tm_tup (ds := [.str b.2.1, .str b.2.2]) (tms_cons (tm_name (by decide)) (tms_cons (tm_name (by decide)) tms_nil))) ?_)⟩
      refine rm_append (EvD.l (ed_call (ea_cons (ed_var rfl) (ea_cons (ed_var rfl) (ea_cons (ed_var rfl) (ea_cons (ed_call (ea_cons (ed_var rfl) (ea_cons (ed_var rfl) ea_nil)) ⟨F, b, rfl, ok, hm, rfl⟩) ea_nil))))
        ⟨F, b.2.1, b.2.2, armOf F b.2.1 b.2.2, rfl, ok.pl, g1.1.le (by decide), g2.1.le (by decide), by have := g1.2; omega, by have := g2.2; omega, rfl⟩)) ?_ ⟨_, _, _, rfl, ?_⟩
      · rw [List.length_map, List.length_map, List.length_take]
        have := ok.bl
        omega
      · rw [take_more hb, List.map_append, List.map_append]
        rfl
    · rintro G w ⟨x, y, z, rfl, rfl⟩
      refine rd_ret (ed_var rfl) (.inl ?_)
      rw [List.length_map, List.take_length]
      rfl
def rowsBy (F : Frm) (cols : List (List Num)) : List (List Num) := (List.range (2 * F.pins.length)).map fun k => cols.map fun c => c.getD k (0, 1)
def R_rows_by (ds : List Dat) (d : Dat) : Prop := ∃ (F : Frm) (cols : List (List Num)), ds = [.frm F, colsD cols] ∧ F.pins.length ≤ 24 ∧ cols.length ≤ 1000 ∧ (∀ c ∈ cols, c.length = 2 * F.pins.length) ∧ d = colsD (rowsBy F cols)
theorem ok_rows_by (T : Txt K mg) (B : Bas Pr base) : FnOk Pr w K mg base CX0 41 (He.ga K "rows_by") (fdAt K (He.ga K "rows_by")) ["frame", "columns"] (spF (sysOf K) R_rows_by) := by
  refine pure_ok (S := sysOf K) (k := 40) T.F_rows_by sc_rows_by (fun ds d h => ?_) (fun cdv A outer s H E hr => ?_)
  · obtain ⟨F, cols, rfl, _⟩ := h
    rfl
  · refine ⟨_, (pss_one (ps_ret (pe_lc (own := [("k", 2)]) (g := gName 2) (tt := tYes) rfl (sc_rows_by).nd (pi_range1 rfl T.n_range (pa_cons (pe_op op_mulX pe_int (pe_callB call_len_seq (by rfl) T.n_len (by decide +kernel) (pa_cons (pe_meth0 (pv 0) T.cl_Frame T.m_Frame_pins (ok_Frame_pins T B) (hr.mono (by decide)) T.b_Frame_pins .nil pass0) pa_nil))) pa_nil)) (blkOk_by (N := ["frame", "columns", "k", "column"]) (sc := defScope s_rows_by) (by decide +kernel)) (fun _ _ _ _ _ => pg_name (i := 2) (sc_rows_by).nd rfl (Or.inr rfl)) (fun _ _ _ _ _ => pts_nil) (fun _ _ _ _ _ => (pe_lc (own := [("column", 3)]) (g := gName 3) (tt := tYes) rfl (sc_rows_by).nd (pi_listK K (pv 1)) (blkOk_by (by rfl)) (fun _ _ _ _ _ => pg_name (i := 3) (sc_rows_by).nd rfl (Or.inl rfl)) (fun _ _ _ _ _ => pts_nil) (fun _ _ _ _ _ => (pe_ix (ix_listK K) (pv 3) (pv 2) (fun _ _ => rfl)))))))), fun ds d h => ?_⟩
    obtain ⟨F, cols, rfl, hl, hc, hcl, rfl⟩ := h
    have hn : EvD (sysOf K) (tCB (fun xs H Q => ∃ p ys, xs = [V.ref p] ∧ (SqL K H p ys ∨ SqT K H p ys) ∧ Q (.int ys.length) H) (tCons (tMeth (He.ga K "Frame") "pins" (spF (sysOf K) R_Frame_pins) [] E0 (tVar 0) tNil) tNil)) (start0 ["frame", "columns", "k", "column"] [Dat.frm F, colsD cols]) (.int (F.pins.length : Int)) :=
      (ed_cb (ea_cons (ed_meth (ed_var rfl) ea_nil ⟨F, rfl, rfl⟩) ea_nil) rc_lenL).to (by rw [List.length_map])
    refine rd_ret (ed_lc_range (n := 2 * (F.pins.length : Int)) (rs := (rowsBy F cols).map colD) (ed_op ed_int hn (rv_mul (mulOk (a := 40) (b := 40) (by decide) (by omega) (by decide)))) (by omega) (by unfold rowsBy; simp; omega) (by omega) fun k r hr => ?_) (.inl rfl)
    obtain ⟨q, hq, rfl⟩ := map_get hr
    unfold rowsBy at hq
    obtain ⟨k', hk', rfl⟩ := map_get hq
    rw [List.getElem?_range (by
      have := (List.getElem?_eq_some_iff.mp hk').1
      rwa [List.length_range] at this)] at hk'
    have hk := (List.getElem?_eq_some_iff.mp hq).1
    rw [List.length_map, List.length_range] at hk
    cases hk'
    show EvD (sysOf K) (tLc (iList (sysOf K).K (tVar 1)) (gName 3) tYes (tOp (rIxL (sysOf K).K) (tVar 3) (tVar 2)) [3]) _ (.lst ((cols.map fun c => c.getD k (0, 1)).map num))
    refine ed_lc_list (ds := cols.map colD) (rs := (cols.map fun c => c.getD k (0, 1)).map num) ?_ (by simp) (by simpa using hc) fun j d r hd hr => ?_
    · exact ed_var rfl
    obtain ⟨c, hcj, rfl⟩ := map_get hd
    obtain ⟨n, hn, rfl⟩ := map_get hr
    obtain ⟨c', hcj', rfl⟩ := map_get hn
    rw [hcj] at hcj'
    cases hcj'
    refine ed_op (ed_var rfl) (ed_var rfl) (rv_ixL (ds := c.map num) (at_ofD rfl ?_))
    have hlen := hcl c (get_mem hcj)
    rw [List.getElem?_map, List.getD_eq_getElem?_getD, List.getElem?_eq_getElem (by omega)]
    rfl
def motionK (F : Frm) (ns : List Num) : List (Key × Dat) := (List.range F.pins.length).map fun i => (Sum.inr (F.pins.getD i nilPin).name, way (ns.getD (2 * i) (0, 1), ns.getD (2 * i + 1) (0, 1)))
def R_motion_by (ds : List Dat) (w : Own) : Prop := ∃ (F : Frm) (ns : List Num), ds = [.frm F, colD ns] ∧ FrmOk F ∧ ns.length = 2 * F.pins.length ∧ w = .K (motionK F ns)
theorem getD_of {α : Type} {l : List α} {k : Nat} {x a : α} (h : l[k]? = some x) : l.getD k a = x := by
  rw [List.getD_eq_getElem?_getD, h]
  rfl
theorem num_at {ns : List Num} {k : Nat} {z : Int} (h : k < ns.length) (e : z = (k : Int)) : atI (ns.map num) z = some (num (ns.getD k (0, 1))) := by
  refine at_ofD e ?_
  rw [List.getElem?_map, List.getD_eq_getElem?_getD, List.getElem?_eq_getElem h]
  rfl
theorem names_out {F : Frm} (h : (F.pins.map Pin.name).Nodup) {k : Nat} {p : Pin} (hp : F.pins[k]? = some p) {β : Type} (f : Nat → β) :
    ¬ (Sum.inr p.name : Key) ∈ ((List.range k).map fun i => ((Sum.inr (F.pins.getD i nilPin).name : Key), f i)).map (·.1) := by
  intro m
  rw [List.map_map] at m
  obtain ⟨i, hi, e⟩ := List.mem_map.mp m
  have e2 : (F.pins.getD i nilPin).name = p.name := Sum.inr.inj e
  have hik : i < k := List.mem_range.mp hi
  have hkl := (List.getElem?_eq_some_iff.mp hp).1
  have hil : i < F.pins.length := by omega
  have a1 : (F.pins.map Pin.name)[i]? = some p.name := by
    rw [List.getElem?_map, List.getElem?_eq_getElem hil]
    rw [List.getD_eq_getElem?_getD, List.getElem?_eq_getElem hil] at e2
    exact congrArg some e2
  have a2 : (F.pins.map Pin.name)[k]? = some p.name := by rw [List.getElem?_map, hp]; rfl
  have := nd_ix h a1 a2
  omega
theorem ok_motion_by (T : Txt K mg) (B : Bas Pr base) : FnOk Pr w K mg base CX0 41 (He.ga K "motion_by") (fdAt K (He.ga K "motion_by")) ["frame", "numbers"] (spO (sysOf K) R_motion_by) := by
  refine own_ok (S := sysOf K) (k := 40) T.F_motion_by sc_motion_by (fun ds d h => ?_) (fun cdv A outer s H E hr => ?_)
  · obtain ⟨F, ns, rfl, _⟩ := h
    rfl
  · refine ⟨_, (pss_cons (ps_set (i := 2) (sc_motion_by).nd rfl (Or.inl rfl) pe_dnewK) (pss_cons (ps_set (i := 3) (sc_motion_by).nd rfl (Or.inl rfl) pe_int) (pss_cons (ps_for PassesOwn.never rfl (pi_list (pe_meth0 (pv 0) T.cl_Frame T.m_Frame_pins (ok_Frame_pins T B) (hr.mono (by decide)) T.b_Frame_pins .nil pass0)) (pg_name (i := 4) (sc_motion_by).nd rfl (Or.inl rfl)) (pss_cons (ps_dput (hu_of hr) (pv 2) (pv 4) (pe_tup (pa_cons (pe_ix ix_list (pv 1) (pv 3) (fun _ _ => rfl)) (pa_cons (pe_ix ix_list (pv 1) (pe_op op_add (pv 3) pe_int) (fun _ _ => rfl)) pa_nil))) rfl) (pss_one (ps_set (i := 3) (sc_motion_by).nd rfl (Or.inl rfl) (pe_op op_add (pv 3) pe_int))))) (pss_one (ps_ret (pv 2)))))), fun ds d h => ?_⟩
    obtain ⟨F, ns, rfl, ok, hl, rfl⟩ := h
    refine rw_new new_K (Nat.le_of_ble_eq_true rfl) ?_
    refine mw_seq (rm_set (by decide) (EvD.l ed_int) ?_)
    refine mw_seq (rm_for_list (ds := F.pins.map fun p => .str p.name) (ed_meth (ed_var rfl) ea_nil ⟨F, rfl, rfl⟩).l (fun k G w => ∃ x, G = [some (.frm F), some (colD ns), none, some (.int (2 * k : Int)), x] ∧ w = .K ((List.range k).map fun i => (Sum.inr (F.pins.getD i nilPin).name, way (ns.getD (2 * i) (0, 1), ns.getD (2 * i + 1) (0, 1))))) ⟨_, rfl, rfl⟩ ?_ ?_)
    · rintro k d G w hd ⟨x, rfl, rfl⟩
      obtain ⟨p, hp, rfl⟩ := map_get hd
      have hk := (List.getElem?_eq_some_iff.mp hp).1
      have hpl := ok.pl
      refine ⟨_, tm_name (by decide), rm_seq (rm_dput (k := .inr p.name) (EvD.l (ed_tup (ea_cons (ed_op (ed_var rfl) (ed_var rfl) (rv_ixL (num_at (k := 2 * k) (by omega) (by omega)))) (ea_cons (ed_op (ed_var rfl) (ed_op (ed_var rfl) ed_int rv_add) (rv_ixL (num_at (k := 2 * k + 1) (by omega) (by omega)))) ea_nil)))) (ed_var rfl) (by rw [List.length_map, List.length_range]; omega) ?_)⟩
      refine rm_set (by decide) (EvD.l (ed_op (ed_var rfl) ed_int rv_add)) ⟨some (.str p.name), ?_, ?_⟩
      · have e : (2 * (k : Int) + 2) = 2 * ((k + 1 : Nat) : Int) := by omega
        rw [e]
        rfl
      · rw [putD_new (names_out ok.pn hp _), List.range_succ, List.map_append]
        rw [List.map_singleton, getD_of hp]
        rfl
    · rintro G w ⟨x, rfl, rfl⟩
      rw [List.length_map]
      exact mw_ret
end
end Ty
set_option Elab.async false
set_option linter.all false
set_option maxRecDepth 100000
set_option maxHeartbeats 4000000
/-! More rules: an owned list that is data from some point on, dicts walked by items() under the lock, slices, joined lists. -/
namespace Ty
open PySem PySem.Spec PyProof.Rows L2
section
variable {S : Sys} {i : Nat} {te ta tb tc : TE} {G : Gam} {w : Own} {d x y z : Dat} {t u : TS} {P : Out → Prop}
/-- the owned thing stands apart; the outcomes are told as from the beginning -/
def RunMO (S : Sys) (i : Nat) (ts : TS) (G : Gam) (w : Own) (P : Out → Prop) : Prop := ∀ σ Hs H0 H1 H Ds D, Step Hs H0 H1 H → H0 D = none → EnvD S H1 σ G → AtO S i σ H1 H D w → Fin S Hs H0 Ds P → ts Ds σ H
def ThenMO (S : Sys) (i : Nat) (u : TS) (P : Out → Prop) : OutM → Prop
  | .nx G w => RunMO S i u G w P
  | .rt d => P (.rt d)
  | _ => False
theorem rd_open (h : NewO S te G w) (hi : i < G.length) (hb : RunMO S i u (G.set i none) w P) : RunD S (tSeq (tAsg te (gName i)) u) G P := fun σ H1 H Ds e E f =>
  h σ H1 H e E _ fun H2 H' D o s hD hn ho hw =>
    hb (σ.set i (some (.ref D))) H1 H H2 H' Ds D s hD (E.mono s.s1).setN ⟨List.getElem?_set_self (by rw [E.len]; exact hi), hn, o, ho, hw⟩ f
theorem mo_seq (h : RunM S i t G w (ThenMO S i u P)) : RunMO S i (tSeq t u) G w P := fun σ Hs H0 H1 H Ds D st hD E a f =>
  h σ H1 H { Ds with nx := u Ds } D st.s2 E a ⟨fun G' w' r σ' H2 H' m E' a' => r σ' Hs H0 H2 H' Ds D (step_ownM st m hD) hD E' a' f, fun d p H2 H' v m dv => f.rt d p H2 H' v (step_ownM st m hD) dv, fun _ _ p => p.elim, fun _ _ p => p.elim⟩
theorem mo_done (r : RunD S u (G.set i (some w.dat)) P) : RunMO S i u G w P := fun σ Hs H0 H1 H Ds D st hD E a f => by
  obtain ⟨sl, ap, o, ho, hw⟩ := a
  have st2 : Step Hs H0 (upd H1 D o) H := step_own st (StepM.refl st.s2 ap) hD ho
  refine r σ (upd H1 D o) H Ds st2.s2 ⟨by rw [List.length_set]; exact E.len, fun j d' q => ?_⟩ (f.step st2)
  by_cases z : j = i
  · subst z
    have hl : j < G.length := by
      have := (List.getElem?_eq_some_iff.mp q).1
      rwa [List.length_set] at this
    rw [List.getElem?_set_self hl] at q
    cases q
    exact ⟨_, sl, hw.dt ap⟩
  · rw [List.getElem?_set_ne (Ne.symm z)] at q
    obtain ⟨v, h1, h2⟩ := E.at_ j d' q
    exact ⟨v, h1, h2.mono (same_new ap)⟩
/-! an answer that holds the owned thing -/
def RunMX (S : Sys) (i : Nat) (ts : TS) (G : Gam) (w : Own) (R : Addr → Dat → Own → Prop) : Prop := ∀ σ H1 H Ds D, Same H1 H → EnvD S H1 σ G → AtO S i σ H1 H D w → (∀ H2 H' o v d wf, StepM D H1 H H2 H' → H' D = some o → OwnAt S H2 o wf → Dt S H2 v d → R D d wf → Ds.rt v H') → ts Ds σ H
theorem mx_seq {R : Addr → Dat → Own → Prop} (h : RunM S i t G w (fun o => match o with | .nx G' w' => RunMX S i u G' w' R | _ => False)) : RunMX S i (tSeq t u) G w R := fun σ H1 H Ds D e E a q =>
  h σ H1 H { Ds with nx := u Ds } D e E a ⟨fun G' w' r σ' H2 H' m E' a' => r σ' H2 H' Ds D m.s2 E' a' fun H3 H'' o v d wf m2 => q H3 H'' o v d wf (m.trans m2), fun _ p => p.elim, fun _ _ p => p.elim, fun _ _ p => p.elim⟩
theorem EnvD.ptr {H : Hp} {σ : L2.St} {D : Addr} (E : EnvD S H σ G) (sl : σ[i]? = some (some (.ref D))) : EnvD S H σ (G.set i (some (.ptr D))) := by
  refine ⟨by rw [List.length_set]; exact E.len, fun j d' q => ?_⟩
  by_cases z : j = i
  · subst z
    have hl : j < G.length := by
      have := (List.getElem?_eq_some_iff.mp q).1
      rwa [List.length_set] at this
    rw [List.getElem?_set_self hl] at q
    cases q
    exact ⟨_, sl, .ptr D⟩
  · rw [List.getElem?_set_ne (Ne.symm z)] at q
    exact E.at_ j d' q
theorem mx_ret {R : Addr → Dat → Own → Prop} {f : Addr → Dat} (h : ∀ D, EvD S te (G.set i (some (.ptr D))) (f D)) (r : ∀ D, R D (f D) w) : RunMX S i (tRet te) G w R := fun σ H1 H Ds D e E a q =>
  h D σ H1 H e (E.ptr a.sl) _ fun H2 H' v s dv => by
    obtain ⟨⟨_, _, o, ho, hw⟩, m⟩ := a.step s
    exact q H2 H' o v _ w m ho hw dv (r D)
end
/-! ### items() under the lock -/
theorem DtK.getV {S : Sys} {H : Hp} : ∀ {v : List (Key × V)} {d : List (Key × Dat)} {i : Nat} {k : Key} {u : V}, DtK S H v d → v[i]? = some (k, u) → ∃ x, d[i]? = some (k, x) ∧ Dt S H u x
  | _, _, _, _, _, .nil, h => by simp at h
  | _, _, 0, _, _, .cons h t, e => by
    simp at e
    obtain ⟨rfl, rfl⟩ := e
    exact ⟨_, rfl, h⟩
  | _, _, i + 1, k, u, .cons h t, e => by
    obtain ⟨x, h1, h2⟩ := DtK.getV (i := i) (k := k) (u := u) t (by simpa using e)
    exact ⟨x, by simpa using h1, h2⟩
section
variable {S : Sys} {i : Nat} {td : TE} {G : Gam} {w : Own} {t : TS} {g : TG} {a D : Addr} {vs : List (Key × V)} {kvs : List (Key × Dat)} {σ : L2.St} {H1 H : Hp} {Ds : Ends}
theorem unlockM {od : Obj} {H2 H' : Hp} (m : StepM D H1 (upd H a (.frz od (.dK vs))) H2 H') (ne : a ≠ D) (ha : H a = some (.dK vs)) (hn : H1 a = none) : StepM D H1 H H2 (upd H' a (.dK vs)) ∧ H' a = some (.frz od (.dK vs)) := by
  have n2 : H2 a = none := by
    cases z : H2 a with
    | none => rfl
    | some o =>
      rcases m.fr a o z with q | q
      · rw [hn] at q; cases q
      · rw [upd_same] at q; cases q
  refine ⟨⟨m.s1, same_mut m.s2 n2, fun b o hb q => ?_, fun b o q => ?_, m.nd⟩, m.s3 _ _ ne upd_same⟩
  · by_cases z : b = a
    · subst z
      rw [ha] at q
      rw [upd_same, ← q]
    · rw [upd_ne z]
      exact m.s3 b o hb (by rw [upd_ne z]; exact q)
  · rcases m.fr b o q with r | r
    · exact .inl r
    · by_cases z : b = a
      · subst z
        rw [n2] at q
        cases q
      · rw [upd_ne z] at r
        exact .inr r
theorem unlockD {od : Obj} {H2 H' : Hp} (m : Step H1 (upd H a (.frz od (.dK vs))) H2 H') (ha : H a = some (.dK vs)) (hn : H1 a = none) : Step H1 H H2 (upd H' a (.dK vs)) ∧ H' a = some (.frz od (.dK vs)) := by
  have n2 : H2 a = none := by
    cases z : H2 a with
    | none => rfl
    | some o =>
      rcases m.fr a o z with q | q
      · rw [hn] at q; cases q
      · rw [upd_same] at q; cases q
  refine ⟨⟨m.s1, same_mut m.s2 n2, fun b o q => ?_, fun b o q => ?_⟩, m.s3 _ _ upd_same⟩
  · by_cases z : b = a
    · subst z
      rw [ha] at q
      rw [upd_same, ← q]
    · rw [upd_ne z]
      exact m.s3 b o (by rw [upd_ne z]; exact q)
  · rcases m.fr b o q with r | r
    · exact .inl r
    · by_cases z : b = a
      · subst z
        rw [n2] at q
        cases q
      · rw [upd_ne z] at r
        exact .inr r
theorem items_rm {P : OutM → Prop} (e : Same H1 H) (E : EnvD S H1 σ G) (A : AtO S i σ H1 H D w) (ne : a ≠ D) (ha : H a = some (.dK vs)) (hn : H1 a = none) (hd : DtK S H1 vs kvs) (f : FinM S i D H1 H Ds P)
    (htd : ∀ od (Q : VK), Q (.ref a) (upd H a (.frz od (.dK vs))) → td σ (upd H a (.frz od (.dK vs))) Q) (I : Nat → Gam → Own → Prop) (h0 : I 0 G w)
    (hs : ∀ (k : Nat) (ky : Key) (d : Dat) (G : Gam) (w : Own), kvs[k]? = some (ky, d) → I k G w → ∃ G', TgM S i g (.tup [keyD ky, d]) G G' ∧ RunM S i t G' w (TurnsM (I (k + 1)) P)) (hx : ∀ G w, I kvs.length G w → P (.nx G w)) :
    tLock (tFor (iItems td) g t) Ds σ H := by
  refine ⟨a, .dK vs, ha, trivial, fun od => htd od _ ⟨a, od, vs, rfl, upd_same, ?_⟩⟩
  have e1 : Same H1 (upd H a (.frz od (.dK vs))) := same_mut e hn
  have A1 : AtO S i σ H1 (upd H a (.frz od (.dK vs))) D w := ⟨A.sl, A.ap, by
    obtain ⟨o, ho, hw⟩ := A.ob
    exact ⟨o, by rw [upd_ne (Ne.symm ne)]; exact ho, hw⟩⟩
  have fin : FinM S i D H1 (upd H a (.frz od (.dK vs))) ⟨fun σ' H' => H' a = some (.frz od (.dK vs)) ∧ Ds.nx σ' (upd H' a (.dK vs)), fun v H' => H' a = some (.frz od (.dK vs)) ∧ Ds.rt v (upd H' a (.dK vs)), fun σ' H' => H' a = some (.frz od (.dK vs)) ∧ Ds.bk σ' (upd H' a (.dK vs)), fun σ' H' => H' a = some (.frz od (.dK vs)) ∧ Ds.ct σ' (upd H' a (.dK vs))⟩ P := by
    have un : ∀ {σ' H2 H' w'}, AtO S i σ' H2 H' D w' → AtO S i σ' H2 (upd H' a (.dK vs)) D w' := fun A => ⟨A.sl, A.ap, by
      obtain ⟨o, ho, hw⟩ := A.ob
      exact ⟨o, by rw [upd_ne (Ne.symm ne)]; exact ho, hw⟩⟩
    refine ⟨fun G' w' p σ' H2 H' m E' A' => ?_, fun d p H2 H' v m dv => ?_, fun G' w' p σ' H2 H' m E' A' => ?_, fun G' w' p σ' H2 H' m E' A' => ?_⟩
    · obtain ⟨m2, q⟩ := unlockM m ne ha hn
      exact ⟨q, f.nx G' w' p σ' H2 _ m2 E' (un A')⟩
    · obtain ⟨m2, q⟩ := unlockM m ne ha hn
      exact ⟨q, f.rt d p H2 _ v m2 dv⟩
    · obtain ⟨m2, q⟩ := unlockM m ne ha hn
      exact ⟨q, f.bk G' w' p σ' H2 _ m2 E' (un A')⟩
    · obtain ⟨m2, q⟩ := unlockM m ne ha hn
      exact ⟨q, f.ct G' w' p σ' H2 _ m2 E' (un A')⟩
  refine for_it walk_items (fun k σ3 H3 => ∃ H4 G3 w3, StepM D H1 (upd H a (.frz od (.dK vs))) H4 H3 ∧ EnvD S H4 σ3 G3 ∧ AtO S i σ3 H4 H3 D w3 ∧ I k G3 w3) ⟨H1, G, w, StepM.refl e1 A.ap, E, A1, h0⟩ (fun k σ3 H3 _ ⟨H4, G3, w3, m, _⟩ => m.s3 _ _ ne upd_same) ?_ ?_
  · rintro k x σ3 H3 H3' hk ⟨H4, G3, w3, m, E3, A3, i3⟩ ⟨T, x, y, rfl, hT, rfl, hx1, hy1⟩
    have hkv : vs[k]? = some vs[k] := List.getElem?_eq_getElem hk
    dsimp only at hx1 hy1
    rw [hkv] at hx1 hy1
    obtain rfl := Option.some.inj hx1
    obtain rfl := Option.some.inj hy1
    obtain ⟨d, hd1, hd2⟩ := (hd.mono m.s1).getV (k := vs[k].1) (u := vs[k].2) hkv
    obtain ⟨G', tg, rb⟩ := hs k _ d G3 w3 hd1 i3
    have st := Step.new (o := .tup [kV vs[k].1, vs[k].2]) m.s2 hT
    obtain ⟨A4, m4⟩ := A3.step st
    refine tg (.ref T) σ3 _ _ st.s2 (E3.mono st.s1) (.tup (SqT.of upd_same) (.cons (keyD_ok _) (.cons (hd2.mono st.s1) .nil))) _ fun σ4 E4 e4 => ?_
    exact rb σ4 _ _ _ D st.s2 E4 (A4.slot e4) (FinM.turns (m.trans m4) fin fun G5 w5 i5 σ5 H5 H5' s5 E5 a5 => ⟨H5, G5, w5, (m.trans m4).trans s5, E5, a5, i5⟩)
  · rintro σ3 H3 ⟨H4, G3, w3, m, E3, A3, i3⟩
    rw [hd.length] at i3
    exact fin.nx G3 w3 (hx G3 w3 i3) σ3 H4 H3 m E3 A3
theorem items_rd {P : Out → Prop} (e : Same H1 H) (E : EnvD S H1 σ G) (ha : H a = some (.dK vs)) (hn : H1 a = none) (hd : DtK S H1 vs kvs) (f : Fin S H1 H Ds P)
    (htd : ∀ od (Q : VK), Q (.ref a) (upd H a (.frz od (.dK vs))) → td σ (upd H a (.frz od (.dK vs))) Q) (I : Nat → Gam → Prop) (h0 : I 0 G)
    (hs : ∀ (k : Nat) (ky : Key) (d : Dat) (G : Gam), kvs[k]? = some (ky, d) → I k G → ∃ G', TgD S g (.tup [keyD ky, d]) G G' ∧ RunD S t G' (Turns (I (k + 1)) P)) (hx : ∀ G, I kvs.length G → P (.nx G)) :
    tLock (tFor (iItems td) g t) Ds σ H := by
  refine ⟨a, .dK vs, ha, trivial, fun od => htd od _ ⟨a, od, vs, rfl, upd_same, ?_⟩⟩
  have e1 : Same H1 (upd H a (.frz od (.dK vs))) := same_mut e hn
  have fin : Fin S H1 (upd H a (.frz od (.dK vs))) ⟨fun σ' H' => H' a = some (.frz od (.dK vs)) ∧ Ds.nx σ' (upd H' a (.dK vs)), fun v H' => H' a = some (.frz od (.dK vs)) ∧ Ds.rt v (upd H' a (.dK vs)), fun σ' H' => H' a = some (.frz od (.dK vs)) ∧ Ds.bk σ' (upd H' a (.dK vs)), fun σ' H' => H' a = some (.frz od (.dK vs)) ∧ Ds.ct σ' (upd H' a (.dK vs))⟩ P := by
    refine ⟨fun G' p σ' H2 H' m E' => ?_, fun d p H2 H' v m dv => ?_, fun G' p σ' H2 H' m E' => ?_, fun G' p σ' H2 H' m E' => ?_⟩
    · obtain ⟨m2, q⟩ := unlockD m ha hn
      exact ⟨q, f.nx G' p σ' H2 _ m2 E'⟩
    · obtain ⟨m2, q⟩ := unlockD m ha hn
      exact ⟨q, f.rt d p H2 _ v m2 dv⟩
    · obtain ⟨m2, q⟩ := unlockD m ha hn
      exact ⟨q, f.bk G' p σ' H2 _ m2 E'⟩
    · obtain ⟨m2, q⟩ := unlockD m ha hn
      exact ⟨q, f.ct G' p σ' H2 _ m2 E'⟩
  refine for_it walk_items (fun k σ3 H3 => ∃ H4 G3, Step H1 (upd H a (.frz od (.dK vs))) H4 H3 ∧ EnvD S H4 σ3 G3 ∧ I k G3) ⟨H1, G, Step.refl e1, E, h0⟩ (fun k σ3 H3 _ ⟨H4, G3, m, _⟩ => m.s3 _ _ upd_same) ?_ ?_
  · rintro k x σ3 H3 H3' hk ⟨H4, G3, m, E3, i3⟩ ⟨T, x, y, rfl, hT, rfl, hx1, hy1⟩
    have hkv : vs[k]? = some vs[k] := List.getElem?_eq_getElem hk
    dsimp only at hx1 hy1
    rw [hkv] at hx1 hy1
    obtain rfl := Option.some.inj hx1
    obtain rfl := Option.some.inj hy1
    obtain ⟨d, hd1, hd2⟩ := (hd.mono m.s1).getV (k := vs[k].1) (u := vs[k].2) hkv
    obtain ⟨G', tg, rb⟩ := hs k _ d G3 hd1 i3
    have st := Step.new (o := .tup [kV vs[k].1, vs[k].2]) m.s2 hT
    refine tg (.ref T) σ3 _ _ st.s2 (E3.mono st.s1) (.tup (SqT.of upd_same) (.cons (keyD_ok _) (.cons (hd2.mono st.s1) .nil))) _ fun σ4 E4 => ?_
    exact rb σ4 _ _ _ st.s2 E4 (Fin.turns (m.trans st) fin fun G5 i5 σ5 H5 H5' s5 E5 => ⟨H5, G5, (m.trans st).trans s5, E5, i5⟩)
  · rintro σ3 H3 ⟨H4, G3, m, E3, i3⟩
    rw [hd.length] at i3
    exact fin.nx G3 (hx G3 i3) σ3 H4 H3 m E3
end
/-! ### slices, joined lists -/
def cutD (xs : List Dat) (lo hi : Option Int) : List Dat := (xs.drop (HT.sIx xs.length 0 lo)).take (HT.sIx xs.length xs.length hi - HT.sIx xs.length 0 lo)
section
variable {S : Sys} {te tf : TE} {tl th : TO} {G : Gam} {ds es : List Dat} {lo hi : Option Int} {n : Int}
theorem eo_none : EvO S tNoPart G none := fun σ H1 H e E Q q => q H1 H (Step.refl e)
theorem eo_some (h : EvD S te G (.int n)) : EvO S (tPart te) G (some n) := fun σ H1 H e E Q q => h σ H1 H e E _ fun H2 H' v s dv => by
  cases dv
  exact ⟨n, rfl, q H2 H' s⟩
theorem ed_sl (h : EvD S te G (.lst ds)) (hl : EvO S tl G lo) (hh : EvO S th G hi) : EvD S (tSl (rSlL S.K) te tl th) G (.lst (cutD ds lo hi)) := fun σ H1 H e E Q q =>
  h σ H1 H e E _ fun H2 H' v s dv => hl σ H2 H' s.s2 (E.mono s.s1) _ fun H3 H'' s2 => hh σ H3 H'' s2.s2 (E.mono (s.s1.trans s2.s1)) _ fun H4 H4' s3 => by
    cases dv with
    | @lst a xs _ ha hd =>
      have st := (s.trans s2).trans s3
      refine ⟨a, xs, rfl, SqL.of (s3.s3 _ _ (s2.s3 _ _ (s.s2 _ _ ha))), fun p hp => q _ _ _ (st.trans (Step.new s3.s2 hp)) (.lst upd_same ?_)⟩
      unfold cutD cutV
      rw [hd.length]
      exact ((hd.mono ((s2.s1.trans s3.s1).trans (same_new (s3.s2.free hp)))).drop _).take _
theorem ed_cat (h : EvD S te G (.lst ds)) (h2 : EvD S tf G (.lst es)) (hl : ds.length + es.length ≤ 100000) : EvD S (tOp rCat te tf) G (.lst (ds ++ es)) := fun σ H1 H e E Q q =>
  h σ H1 H e E _ fun H2 H' v s dv => h2 σ H2 H' s.s2 (E.mono s.s1) _ fun H3 H'' u s2 du => by
    cases dv with
    | @lst a xs _ ha hd =>
      cases du with
      | @lst b ys _ hb hd2 =>
        exact ⟨a, b, xs, ys, rfl, rfl, s2.s3 _ _ (s.s2 _ _ ha), s2.s2 _ _ hb, by rw [hd.length, hd2.length, sizeLine_eq]; omega, fun p hp => q _ _ _ ((s.trans s2).trans (Step.new s2.s2 hp)) (.lst upd_same ((hd.mono (s2.s1.trans (same_new (s2.s2.free hp)))).append (hd2.mono (same_new (s2.s2.free hp)))))⟩
theorem cut_to {k : Nat} : cutD ds none (some (k : Int)) = ds.take k := by
  unfold cutD
  rw [HT.sIx_none, HT.sIx_nat, List.drop_zero, Nat.sub_zero]
  by_cases h : k ≤ ds.length
  · rw [Nat.min_eq_left h]
  · rw [Nat.min_eq_right (by omega), List.take_length, List.take_of_length_le (by omega)]
theorem cut_from {k : Nat} : cutD ds (some (k : Int)) none = ds.drop k := by
  unfold cutD
  rw [HT.sIx_none, HT.sIx_nat]
  by_cases h : k ≤ ds.length
  · rw [Nat.min_eq_left h, List.take_of_length_le (by rw [List.length_drop]; omega)]
  · rw [Nat.min_eq_right (by omega), List.drop_length, List.drop_of_length_le (by omega)]
    simp
theorem cut_mid {k m : Nat} : cutD ds (some (k : Int)) (some ((k + m : Nat) : Int)) = (ds.drop k).take m := by
  unfold cutD
  rw [HT.sIx_nat, HT.sIx_nat]
  by_cases h : k ≤ ds.length
  · rw [Nat.min_eq_left h]
    by_cases h2 : k + m ≤ ds.length
    · rw [Nat.min_eq_left h2, Nat.add_sub_cancel_left]
    · rw [Nat.min_eq_right (by omega), List.take_of_length_le (by rw [List.length_drop]; omega), List.take_of_length_le (by rw [List.length_drop]; omega)]
  · rw [show min k ds.length = ds.length by omega, List.drop_length, List.drop_of_length_le (l := ds) (by omega)]
    simp
end
end Ty
set_option Elab.async false
set_option linter.all false
set_option maxRecDepth 100000
set_option maxHeartbeats 4000000
/-! The solving defs' mirror, plain: shapes and sizes. -/
namespace Ty
open PySem PySem.Spec
def gcdL (ns : List Int) : Nat := ns.foldl (fun g n => Nat.gcd g n.natAbs) 0
def lowRow (ns : List Int) : List Int := if (gcdL ns : Int) < 2 then ns else ns.map fun n => n / (gcdL ns : Int)
def lcmStep (b : Int) (q : Num) : Int := b * q.2 / (gcdL [b, q.2] : Int)
def bottomOf (row : List Num) (due : Num) : Int := row.foldl lcmStep due.2
def jointRaw (row : List Num) (due : Num) (at_ many : Nat) : List Int :=
  (row.map fun q => q.1 * (bottomOf row due / q.2)) ++ [due.1 * (bottomOf row due / due.2)] ++ (List.range many).map fun k => if k = at_ then bottomOf row due else 0
def jointRow (row : List Num) (due : Num) (at_ many : Nat) : List Int := lowRow (jointRaw row due at_ many)
def jointRows (rows : List (List Num)) (due : List Num) : List (List Int) := (List.range rows.length).map fun k => jointRow (rows.getD k []) (due.getD k (0, 1)) k rows.length
def clearRaw (one lead : List Int) (c : Nat) : List Int := (List.range one.length).map fun k => lead.getD c 0 * one.getD k 0 - one.getD c 0 * lead.getD k 0
def clearRow (one lead : List Int) (c : Nat) : List Int := if one.getD c 0 = 0 then one else lowRow (clearRaw one lead c)
abbrev Leads := List (Nat × List Int)
def firstAt (rest : List (List Int)) (c : Nat) : Nat := rest.findIdx fun r => decide (r.getD c 0 ≠ 0)
def stepCol (st : Leads × List (List Int)) (c : Nat) : Leads × List (List Int) :=
  let a := firstAt st.2 c
  if a = st.2.length then st else
    let lead := st.2.getD a []
    (st.1.map (fun p => (p.1, clearRow p.2 lead c)) ++ [(c, lead)], (st.2.take a ++ st.2.drop (a + 1)).map fun r => clearRow r lead c)
def ledRows (js : List (List Int)) (many : Nat) : Leads × List (List Int) := (List.range many).foldl stepCol ([], js)
def solveRows (rows : List (List Num)) (due : List Num) (many : Nat) : Bool × List Num :=
  let st := ledRows (jointRows rows due) many
  match st.2.find? fun r => decide (r.getD many 0 ≠ 0) with
  | some j => (true, (j.drop (many + 1)).map fun n => ratioOf n (j.getD many 0))
  | none => (false, st.1.foldl (fun f p => f.set p.1 (ratioOf (p.2.getD many 0) (p.2.getD p.1 0))) (List.replicate many (0, 1)))
/-! gcd -/
theorem gcdF_dvd : ∀ (ns : List Int) (g : Nat), (ns.foldl (fun g n => Nat.gcd g n.natAbs) g ∣ g) ∧ ∀ n ∈ ns, (ns.foldl (fun g n => Nat.gcd g n.natAbs) g) ∣ n.natAbs
  | [], g => ⟨Nat.dvd_refl _, fun _ h => by cases h⟩
  | n :: ns, g => by
    obtain ⟨h1, h2⟩ := gcdF_dvd ns (Nat.gcd g n.natAbs)
    rw [List.foldl_cons]
    refine ⟨Nat.dvd_trans h1 (Nat.gcd_dvd_left _ _), fun m hm => ?_⟩
    rcases List.mem_cons.mp hm with rfl | hm
    · exact Nat.dvd_trans h1 (Nat.gcd_dvd_right _ _)
    · exact h2 m hm
theorem gcdL_dvd {ns : List Int} {n : Int} (h : n ∈ ns) : (gcdL ns : Int) ∣ n := Int.ofNat_dvd_left.mpr ((gcdF_dvd ns 0).2 n h)
theorem gcdF_one : ∀ (ns : List Int), ns.foldl (fun g n => Nat.gcd g n.natAbs) 1 = 1
  | [] => rfl
  | n :: ns => by
    rw [List.foldl_cons, Nat.gcd_one_left]
    exact gcdF_one ns
/-! sizes -/
def Bd (b : Nat) (r : List Int) : Prop := ∀ x ∈ r, x.natAbs < 2 ^ b
theorem Bd.le {b c : Nat} {r : List Int} (h : Bd b r) (l : b ≤ c) : Bd c r := fun x hx => sz_le (h x hx) l
theorem getD_mem {α : Type} {l : List α} {k : Nat} {a : α} (h : k < l.length) : l.getD k a ∈ l := by
  rw [List.getD_eq_getElem?_getD, List.getElem?_eq_getElem h]
  exact List.getElem_mem h
theorem Bd.getD {b : Nat} {r : List Int} (h : Bd b r) (k : Nat) : (r.getD k 0).natAbs < 2 ^ b := by
  by_cases hk : k < r.length
  · exact h _ (getD_mem hk)
  · rw [List.getD_eq_getElem?_getD, List.getElem?_eq_none (by omega)]
    exact Nat.two_pow_pos b
theorem low_len (r : List Int) : (lowRow r).length = r.length := by
  unfold lowRow
  split
  · rfl
  · rw [List.length_map]
theorem low_bd {b : Nat} {r : List Int} (h : Bd b r) : Bd b (lowRow r) := by
  unfold lowRow
  split
  · exact h
  · intro x hx
    obtain ⟨y, hy, rfl⟩ := List.mem_map.mp hx
    exact sz_div (h y hy)
theorem low_get (r : List Int) (k : Nat) : ∃ g : Int, 0 < g ∧ (∀ k, (lowRow r).getD k 0 * g = r.getD k 0) := by
  unfold lowRow
  split
  · exact ⟨1, by decide, fun k => Int.mul_one _⟩
  · rename_i hg
    refine ⟨(gcdL r : Int), by omega, fun k => ?_⟩
    rw [List.getD_eq_getElem?_getD, List.getD_eq_getElem?_getD, List.getElem?_map]
    cases e : r[k]? with
    | none => simp
    | some x => exact Int.ediv_mul_cancel (gcdL_dvd (List.mem_of_getElem? e))
theorem clear_len (one lead : List Int) (c : Nat) : (clearRow one lead c).length = one.length := by
  unfold clearRow
  split
  · rfl
  · rw [low_len]
    unfold clearRaw
    simp
theorem raw_get (one lead : List Int) (c k : Nat) (h : lead.length = one.length) : (clearRaw one lead c).getD k 0 = lead.getD c 0 * one.getD k 0 - one.getD c 0 * lead.getD k 0 := by
  unfold clearRaw
  rw [List.getD_eq_getElem?_getD, List.getElem?_map]
  by_cases hk : k < one.length
  · rw [List.getElem?_range hk]
    rfl
  · rw [List.getElem?_eq_none (by simpa using hk)]
    have e1 : one.getD k 0 = 0 := by rw [List.getD_eq_getElem?_getD, List.getElem?_eq_none (by omega)]; rfl
    have e2 : lead.getD k 0 = 0 := by rw [List.getD_eq_getElem?_getD, List.getElem?_eq_none (by omega)]; rfl
    rw [e1, e2]
    simp
theorem raw_bd {b : Nat} {one lead : List Int} {c : Nat} (h1 : Bd b one) (h2 : Bd b lead) : Bd (2 * b + 1) (clearRaw one lead c) := by
  intro x hx
  unfold clearRaw at hx
  obtain ⟨k, _, rfl⟩ := List.mem_map.mp hx
  have m1 := sz_mul (h2.getD c) (h1.getD k)
  have m2 := sz_neg (sz_mul (h1.getD c) (h2.getD k))
  have h := sz_add m1 m2
  have e : lead.getD c 0 * one.getD k 0 + (0 - one.getD c 0 * lead.getD k 0) = lead.getD c 0 * one.getD k 0 - one.getD c 0 * lead.getD k 0 := by omega
  rw [e] at h
  exact sz_le h (by omega)
theorem clear_bd {b : Nat} {one lead : List Int} {c : Nat} (h1 : Bd b one) (h2 : Bd b lead) : Bd (2 * b + 1) (clearRow one lead c) := by
  unfold clearRow
  split
  · exact h1.le (by omega)
  · exact low_bd (raw_bd h1 h2)
/-- what clearing does: over * one - under * lead, up to a scale -/
theorem clear_get (one lead : List Int) (c : Nat) (h : lead.length = one.length) (hc : lead.getD c 0 ≠ 0) : ∃ g o u : Int, g ≠ 0 ∧ o ≠ 0 ∧ u * lead.getD c 0 = o * one.getD c 0 ∧ ∀ k, (clearRow one lead c).getD k 0 * g = o * one.getD k 0 - u * lead.getD k 0 := by
  unfold clearRow
  split
  · rename_i h0
    exact ⟨1, 1, 0, by decide, by decide, by rw [h0]; simp, fun k => by simp⟩
  · obtain ⟨g, hg, e⟩ := low_get (clearRaw one lead c) 0
    exact ⟨g, lead.getD c 0, one.getD c 0, by omega, hc, Int.mul_comm _ _, fun k => by rw [e, raw_get one lead c k h]⟩
theorem clear_zero {one lead : List Int} {c : Nat} (h : lead.length = one.length) (hc : lead.getD c 0 ≠ 0) : (clearRow one lead c).getD c 0 = 0 := by
  obtain ⟨g, o, u, hg, ho, hu, e⟩ := clear_get one lead c h hc
  have := e c
  rw [← hu, Int.sub_self] at this
  exact (Int.mul_eq_zero.mp this).resolve_right hg
theorem clear_zero2 {one lead : List Int} {c j : Nat} (h : lead.length = one.length) (hc : lead.getD c 0 ≠ 0) (h1 : one.getD j 0 = 0) (h2 : lead.getD j 0 = 0) : (clearRow one lead c).getD j 0 = 0 := by
  obtain ⟨g, o, u, hg, ho, hu, e⟩ := clear_get one lead c h hc
  have := e j
  rw [h1, h2, Int.mul_zero, Int.mul_zero, Int.sub_self] at this
  exact (Int.mul_eq_zero.mp this).resolve_right hg
theorem clear_ne {one lead : List Int} {c j : Nat} (h : lead.length = one.length) (hc : lead.getD c 0 ≠ 0) (h1 : one.getD j 0 ≠ 0) (h2 : lead.getD j 0 = 0) : (clearRow one lead c).getD j 0 ≠ 0 := by
  obtain ⟨g, o, u, hg, ho, hu, e⟩ := clear_get one lead c h hc
  have := e j
  rw [h2, Int.mul_zero, Int.sub_zero] at this
  intro z
  rw [z, Int.zero_mul] at this
  rcases Int.mul_eq_zero.mp this.symm with q | q
  · exact ho q
  · exact h1 q
/-- shapes and sizes, after the first k columns -/
structure LInv (L R c k : Nat) (st : Leads × List (List Int)) : Prop where
  l1 : ∀ p ∈ st.1, p.2.length = L
  l2 : ∀ r ∈ st.2, r.length = L
  ct : st.1.length + st.2.length = R
  b1 : ∀ p ∈ st.1, Bd (2 ^ st.1.length * c - 1) p.2
  b2 : ∀ r ∈ st.2, Bd (2 ^ st.1.length * c - 1) r
  ks : (st.1.map (·.1)).Pairwise (· < ·)
  kb : ∀ p ∈ st.1, p.1 < k
  pv : ∀ p ∈ st.1, p.2.getD p.1 0 ≠ 0
  rz : ∀ r ∈ st.2, ∀ j, j < k → r.getD j 0 = 0
  lz : ∀ p ∈ st.1, ∀ q ∈ st.1, q.1 ≠ p.1 → p.2.getD q.1 0 = 0
theorem mem_cut {α : Type} {l : List α} {a : Nat} {x : α} (h : x ∈ l.take a ++ l.drop (a + 1)) : x ∈ l := by
  rcases List.mem_append.mp h with q | q
  · exact List.mem_of_mem_take q
  · exact List.mem_of_mem_drop q
theorem first_ne {rest : List (List Int)} {c : Nat} (h : firstAt rest c ≠ rest.length) : firstAt rest c < rest.length ∧ (rest.getD (firstAt rest c) []).getD c 0 ≠ 0 := by
  have hl : firstAt rest c < rest.length := by
    have : firstAt rest c ≤ rest.length := List.findIdx_le_length
    omega
  refine ⟨hl, ?_⟩
  have := List.findIdx_getElem (w := hl)
  have e : rest.getD (firstAt rest c) [] = rest[firstAt rest c] := by rw [List.getD_eq_getElem?_getD, List.getElem?_eq_getElem hl]; rfl
  rw [e]
  exact of_decide_eq_true this
theorem first_all {rest : List (List Int)} {c : Nat} (h : firstAt rest c = rest.length) : ∀ r ∈ rest, r.getD c 0 = 0 := by
  intro r hr
  have := List.findIdx_eq_length.mp h r hr
  simpa using this
theorem pow_step (s c : Nat) (hc : 1 ≤ c) : 2 * (2 ^ s * c - 1) + 1 = 2 ^ (s + 1) * c - 1 := by
  have h1 : 1 ≤ 2 ^ s * c := Nat.le_trans hc (Nat.le_mul_of_pos_left c (Nat.two_pow_pos s))
  have h2 : 2 ^ (s + 1) * c = 2 * (2 ^ s * c) := by rw [Nat.pow_succ]; simp [Nat.mul_assoc, Nat.mul_comm, Nat.mul_left_comm]
  omega
theorem LInv.step {L R c k : Nat} {st : Leads × List (List Int)} (hc : 1 ≤ c) (h : LInv L R c k st) : LInv L R c (k + 1) (stepCol st k) := by
  obtain ⟨leads, rest⟩ := st
  unfold stepCol
  dsimp only
  by_cases e : firstAt rest k = rest.length
  · rw [if_pos e]
    refine ⟨h.l1, h.l2, h.ct, h.b1, h.b2, h.ks, fun p hp => Nat.lt_succ_of_lt (h.kb p hp), h.pv, fun r hr j hj => ?_, h.lz⟩
    by_cases z : j = k
    · subst z
      exact first_all e r hr
    · exact h.rz r hr j (by omega)
  · rw [if_neg e]
    obtain ⟨hl, hp⟩ := first_ne e
    have hm : rest.getD (firstAt rest k) [] ∈ rest := getD_mem hl
    revert hp hm
    generalize rest.getD (firstAt rest k) [] = lead
    intro hp hm
    have hL := h.l2 lead hm
    have hs : (leads.map (fun p => (p.1, clearRow p.2 lead k)) ++ [(k, lead)]).length = leads.length + 1 := by simp
    have hb1 : 2 * (2 ^ leads.length * c - 1) + 1 = 2 ^ (leads.length + 1) * c - 1 := pow_step _ _ hc
    have memL : ∀ p ∈ leads.map (fun p => (p.1, clearRow p.2 lead k)) ++ [(k, lead)], (∃ q ∈ leads, p = (q.1, clearRow q.2 lead k)) ∨ p = (k, lead) := fun p hp => by
      rcases List.mem_append.mp hp with q | q
      · obtain ⟨x, hx, rfl⟩ := List.mem_map.mp q
        exact .inl ⟨x, hx, rfl⟩
      · exact .inr (List.mem_singleton.mp q)
    have memR : ∀ r ∈ (rest.take (firstAt rest k) ++ rest.drop (firstAt rest k + 1)).map (fun r => clearRow r lead k), ∃ x ∈ rest, r = clearRow x lead k := fun r hr => by
      obtain ⟨x, hx, rfl⟩ := List.mem_map.mp hr
      exact ⟨x, mem_cut hx, rfl⟩
    refine ⟨fun p q => ?_, fun r q => ?_, ?_, fun p q => ?_, fun r q => ?_, ?_, fun p q => ?_, fun p q => ?_, fun r q j hj => ?_, fun p q p' q' ne => ?_⟩
    · rcases memL p q with ⟨x, hx, rfl⟩ | rfl
      · rw [clear_len]; exact h.l1 x hx
      · exact hL
    · obtain ⟨x, hx, rfl⟩ := memR r q
      rw [clear_len]; exact h.l2 x hx
    · have := h.ct
      dsimp only at this ⊢
      rw [hs, List.length_map, List.length_append, List.length_take, List.length_drop]
      omega
    · dsimp only
      rw [hs, ← hb1]
      rcases memL p q with ⟨x, hx, rfl⟩ | rfl
      · exact clear_bd (h.b1 x hx) (h.b2 lead hm)
      · exact (h.b2 lead hm).le (by dsimp only; omega)
    · dsimp only
      rw [hs, ← hb1]
      obtain ⟨x, hx, rfl⟩ := memR r q
      exact clear_bd (h.b2 x hx) (h.b2 lead hm)
    · dsimp only
      rw [List.map_append, List.map_map]
      refine List.pairwise_append.mpr ⟨h.ks, List.pairwise_singleton _ _, fun a ha b hb => ?_⟩
      obtain ⟨x, hx, rfl⟩ := List.mem_map.mp ha
      obtain rfl := List.mem_singleton.mp hb
      exact h.kb x hx
    · rcases memL p q with ⟨x, hx, rfl⟩ | rfl
      · exact Nat.lt_succ_of_lt (h.kb x hx)
      · exact Nat.lt_succ_self _
    · rcases memL p q with ⟨x, hx, rfl⟩ | rfl
      · exact clear_ne (by rw [hL, h.l1 x hx]) hp (h.pv x hx) (h.rz lead hm _ (h.kb x hx))
      · exact hp
    · obtain ⟨x, hx, rfl⟩ := memR r q
      by_cases z : j = k
      · subst z
        exact clear_zero (by rw [hL, h.l2 x hx]) hp
      · exact clear_zero2 (by rw [hL, h.l2 x hx]) hp (h.rz x hx j (by omega)) (h.rz lead hm j (by omega))
    · rcases memL p q with ⟨x, hx, rfl⟩ | rfl
      · rcases memL p' q' with ⟨y, hy, rfl⟩ | rfl
        · exact clear_zero2 (by rw [hL, h.l1 x hx]) hp (h.lz x hx y hy ne) (h.rz lead hm _ (h.kb y hy))
        · exact clear_zero (by rw [hL, h.l1 x hx]) hp
      · rcases memL p' q' with ⟨y, hy, rfl⟩ | rfl
        · exact h.rz lead hm _ (h.kb y hy)
        · exact absurd rfl ne
theorem range_fold {α : Type} (f : α → Nat → α) (a : α) (n : Nat) : (List.range (n + 1)).foldl f a = f ((List.range n).foldl f a) n := by
  rw [List.range_succ, List.foldl_append]
  rfl
def ledTo (js : List (List Int)) (k : Nat) : Leads × List (List Int) := (List.range k).foldl stepCol ([], js)
theorem ledTo_succ (js : List (List Int)) (k : Nat) : ledTo js (k + 1) = stepCol (ledTo js k) k := range_fold _ _ _
theorem led_inv {L c : Nat} {js : List (List Int)} (hc : 1 ≤ c) (h1 : ∀ r ∈ js, r.length = L) (h2 : ∀ r ∈ js, Bd (c - 1) r) : ∀ k, LInv L js.length c k (ledTo js k)
  | 0 => ⟨(fun p h => by cases h), h1, Nat.zero_add _, (fun p h => by cases h), (fun r hr => (h2 r hr).le (by show c - 1 ≤ 2 ^ 0 * c - 1; omega)), List.Pairwise.nil, (fun p h => by cases h), (fun p h => by cases h), (fun r hr j hj => by omega), (fun p h => by cases h)⟩
  | k + 1 => by
    rw [ledTo_succ]
    exact (led_inv hc h1 h2 k).step hc
/-! joint rows -/
theorem gcd2_pos {b q : Int} (hb : 0 < b) : 0 < gcdL [b, q] := by
  show 0 < Nat.gcd (Nat.gcd 0 b.natAbs) q.natAbs
  rw [Nat.gcd_zero_left]
  exact Nat.gcd_pos_of_pos_left _ (by omega)
theorem lcm_pos {b : Int} {q : Num} (hb : 0 < b) (hq : 0 < q.2) : 0 < lcmStep b q ∧ b ∣ lcmStep b q ∧ q.2 ∣ lcmStep b q ∧ (lcmStep b q).natAbs ≤ (b * q.2).natAbs := by
  have hg : (0 : Int) < (gcdL [b, q.2] : Int) := by
    have := gcd2_pos (q := q.2) hb
    omega
  have d1 : (gcdL [b, q.2] : Int) ∣ b := gcdL_dvd (by simp)
  have d2 : (gcdL [b, q.2] : Int) ∣ q.2 := gcdL_dvd (by simp)
  have e1 : lcmStep b q = b * (q.2 / (gcdL [b, q.2] : Int)) := Int.mul_ediv_assoc _ d2
  have e2 : lcmStep b q = q.2 * (b / (gcdL [b, q.2] : Int)) := by
    unfold lcmStep
    rw [Int.mul_comm b q.2]
    exact Int.mul_ediv_assoc _ d1
  refine ⟨?_, ⟨_, e1⟩, ⟨_, e2⟩, Int.natAbs_ediv_le_natAbs _ _⟩
  rw [e1]
  refine Int.mul_pos hb ?_
  have h0 : 0 ≤ q.2 / (gcdL [b, q.2] : Int) := Int.ediv_nonneg (by omega) (by omega)
  have h1 : q.2 / (gcdL [b, q.2] : Int) ≠ 0 := fun z => by
    have := Int.ediv_mul_cancel d2
    rw [z, Int.zero_mul] at this
    omega
  omega
theorem bottom_fold {n : Nat} : ∀ (row : List Num) (b : Int) (m : Nat), 0 < b → b.natAbs < 2 ^ m → (∀ q ∈ row, Good n q) →
    0 < row.foldl lcmStep b ∧ b ∣ row.foldl lcmStep b ∧ (∀ q ∈ row, q.2 ∣ row.foldl lcmStep b) ∧ (row.foldl lcmStep b).natAbs < 2 ^ (m + n * row.length)
  | [], b, m, hb, hm, _ => ⟨hb, Int.dvd_refl _, (fun q h => by cases h), by simpa using hm⟩
  | q :: row, b, m, hb, hm, h => by
    obtain ⟨⟨s1, s2⟩, hq⟩ := h q List.mem_cons_self
    obtain ⟨p1, p2, p3, p4⟩ := lcm_pos hb hq
    have hm2 : (lcmStep b q).natAbs < 2 ^ (m + n) := Nat.lt_of_le_of_lt p4 (sz_mul hm s2)
    obtain ⟨r1, r2, r3, r4⟩ := bottom_fold row (lcmStep b q) (m + n) p1 hm2 fun x hx => h x (List.mem_cons_of_mem _ hx)
    rw [List.foldl_cons, List.length_cons]
    refine ⟨r1, Int.dvd_trans p2 r2, fun x hx => ?_, sz_le r4 (by rw [Nat.mul_add]; omega)⟩
    rcases List.mem_cons.mp hx with rfl | hx
    · exact Int.dvd_trans p3 r2
    · exact r3 x hx
theorem bottom_ok {n : Nat} {row : List Num} {due : Num} (h : ∀ q ∈ row, Good n q) (hd : Good n due) :
    0 < bottomOf row due ∧ due.2 ∣ bottomOf row due ∧ (∀ q ∈ row, q.2 ∣ bottomOf row due) ∧ (bottomOf row due).natAbs < 2 ^ (n * (row.length + 1)) := by
  obtain ⟨a, b, c, d⟩ := bottom_fold row due.2 n hd.2 hd.1.2 h
  exact ⟨a, b, c, sz_le d (by rw [Nat.mul_add]; omega)⟩
theorem joint_bd {n : Nat} {row : List Num} {due : Num} {at_ many : Nat} (h : ∀ q ∈ row, Good n q) (hd : Good n due) : Bd (n * (row.length + 2)) (jointRaw row due at_ many) := by
  obtain ⟨a, b, c, d⟩ := bottom_ok h hd
  have e : ∀ q : Num, Good n q → (q.1 * (bottomOf row due / q.2)).natAbs < 2 ^ (n * (row.length + 2)) := fun q hq => sz_le (sz_mul hq.1.1 (sz_div d)) (by simp only [Nat.mul_add]; omega)
  intro x hx
  unfold jointRaw at hx
  rcases List.mem_append.mp hx with hx | hx
  · rcases List.mem_append.mp hx with hx | hx
    · obtain ⟨q, hq, rfl⟩ := List.mem_map.mp hx
      exact e q (h q hq)
    · rw [List.mem_singleton.mp hx]
      exact e due hd
  · obtain ⟨k, _, rfl⟩ := List.mem_map.mp hx
    split
    · exact sz_le d (by simp only [Nat.mul_add]; omega)
    · exact Nat.two_pow_pos _
theorem jointRaw_len (row : List Num) (due : Num) (at_ many : Nat) : (jointRaw row due at_ many).length = row.length + 1 + many := by
  unfold jointRaw
  simp
  omega
theorem joint_len (row : List Num) (due : Num) (at_ many : Nat) : (jointRow row due at_ many).length = row.length + 1 + many := by
  unfold jointRow
  rw [low_len, jointRaw_len]
end Ty
set_option Elab.async false
set_option linter.all false
set_option maxRecDepth 100000
set_option maxHeartbeats 4000000
/-! The solving defs, walked. -/
namespace Ty
open PySem PySem.Spec PyProof.Rows L2
def intsD (r : List Int) : Dat := .lst (r.map .int)
theorem gcdF_app (ns : List Int) (n : Int) : gcdL (ns ++ [n]) = Nat.gcd (gcdL ns) n.natAbs := by
  unfold gcdL
  rw [List.foldl_append]
  rfl
theorem gcd_one_all {ns : List Int} {k : Nat} (h : gcdL (ns.take k) = 1) : gcdL ns = 1 := by
  have e : ns = ns.take k ++ ns.drop k := (List.take_append_drop k ns).symm
  rw [e]
  unfold gcdL at h ⊢
  rw [List.foldl_append, h]
  exact gcdF_one _
section
variable {Pr : Program} {w : World} {K : PySem.W.Frag} {mg : Str → Option Value} {base : Heap}
def R_shared_divisor (ds : List Dat) (d : Dat) : Prop := ∃ ns : List Int, ds = [intsD ns] ∧ d = .int (gcdL ns : Int)
theorem ok_shared_divisor (T : Txt K mg) (B : Bas Pr base) : FnOk Pr w K mg base CX0 40 (He.ga K "shared_divisor") (fdAt K (He.ga K "shared_divisor")) ["numbers"] (spF (sysOf K) R_shared_divisor) := by
  refine pure_ok (S := sysOf K) (k := 39) T.F_shared_divisor sc_shared_divisor (fun ds d h => ?_) (fun cdv A outer s H E hr => ?_)
  · obtain ⟨ns, rfl, _⟩ := h
    rfl
  · refine ⟨_, (pss_cons (ps_set (i := 1) (sc_shared_divisor).nd rfl (Or.inl rfl) pe_int) (pss_cons (ps_for PassesOwn.never rfl (pi_list (pv 0)) (pg_name (i := 2) (sc_shared_divisor).nd rfl (Or.inl rfl)) (pss_cons (ps_set (i := 3) (sc_shared_divisor).nd rfl (Or.inl rfl) (pe_callB call_abs (by rfl) T.n_abs (by decide +kernel) (pa_cons (pv 2) pa_nil))) (pss_cons (ps_while PassesOwn.never (pt_cmpR op_ne (pv 3) pe_int (nomark _)) (pss_one (ps_par (i := 1) (j := 3) (by rfl) (sc_shared_divisor).nd rfl rfl (by decide) rfl rfl (pa_cons (pv 3) (pa_cons (pe_op op_mod (pv 1) (pv 3)) pa_nil)) (by rfl)))) (pss_one (ps_if (pt_cmpR op_eq (pv 1) pe_int (nomark _)) (pss_one (ps_ret pe_int)) pss_nil))))) (pss_one (ps_ret (pv 1))))), fun ds d h => ?_⟩
    obtain ⟨ns, rfl, rfl⟩ := h
    refine rd_seq (rd_set ed_int ?_)
    refine rd_seq (rd_for_list (ds := ns.map .int) (ed_var rfl) (fun k G => ∃ x y, G = [some (intsD ns), some (.int (gcdL (ns.take k) : Int)), x, y]) ⟨_, _, rfl⟩ ?_ ?_)
    · rintro k d G hd ⟨x, y, rfl⟩
      obtain ⟨n, hn, rfl⟩ := map_get hd
      refine ⟨_, tg_name, rd_seq (rd_set (ed_cb (ea_cons (ed_var rfl) ea_nil) rc_abs) ?_)⟩
      refine rd_seq (rd_while (fun m G => ∃ a b : Nat, G = [some (intsD ns), some (.int a), some (.int n), some (.int b)] ∧ Nat.gcd a b = gcdL (ns.take (k + 1)) ∧ m = b) n.natAbs ⟨gcdL (ns.take k), n.natAbs, rfl, ?_, rfl⟩ ?_)
      · rw [take_more hn, gcdF_app]
      rintro m _ ⟨a, b, rfl, hg, hm⟩
      refine ⟨decide ((b : Int) ≠ 0), et_test (ed_op (ed_var rfl) ed_int rv_neI), fun hb => ?_, fun hb => ?_⟩
      · have hy : (b : Int) ≠ 0 := of_decide_eq_true hb
        refine rd_par (ea_cons (ed_var rfl) (ea_cons (ed_op (ed_var rfl) (ed_var rfl) (rv_mod (by omega))) ea_nil)) ?_
        refine ⟨a % b, by rw [hm]; exact Nat.mod_lt _ (by omega), b, a % b, by simp, ?_, rfl⟩
        rw [← hg, Nat.gcd_comm b (a % b), ← Nat.gcd_rec, Nat.gcd_comm]
      · have hy : (b : Int) = 0 := by simpa using of_decide_eq_false hb
        have hy : b = 0 := by omega
        subst hy
        rw [Nat.gcd_zero_right] at hg
        refine rd_if (et_test (ed_op (ed_var rfl) ed_int rv_eqI)) (fun h1 => ?_) (fun h1 => rd_next ⟨_, _, by rw [← hg]⟩)
        have h2 : (a : Int) = 1 := of_decide_eq_true h1
        refine rd_ret ed_int (.inl ?_)
        rw [gcd_one_all (k := k + 1) (by omega)]
        rfl
    · rintro G ⟨x, y, rfl⟩
      refine rd_ret (ed_var rfl) (.inl ?_)
      rw [List.length_map, List.take_length]
def R_lowest_row (ds : List Dat) (d : Dat) : Prop := ∃ ns : List Int, ds = [intsD ns] ∧ ns.length ≤ 1000 ∧ d = intsD (lowRow ns)
theorem ok_lowest_row (T : Txt K mg) (B : Bas Pr base) : FnOk Pr w K mg base CX0 41 (He.ga K "lowest_row") (fdAt K (He.ga K "lowest_row")) ["numbers"] (spF (sysOf K) R_lowest_row) := by
  refine pure_ok (S := sysOf K) (k := 40) T.F_lowest_row sc_lowest_row (fun ds d h => ?_) (fun cdv A outer s H E hr => ?_)
  · obtain ⟨ns, rfl, _⟩ := h
    rfl
  · have Z := see_cx (CX := CX0) (Pr := Pr) (w := w) (K := K) (mg := mg) (outer := outer) (H := H) (E := E) B sc_lowest_row hr (by decide)
    refine ⟨_, (pss_cons (ps_set (i := 1) (sc_lowest_row).nd rfl (Or.inr rfl) (pe_call (ok_shared_divisor T B) (hr.mono (by decide)) rfl T.g_shared_divisor T.F_shared_divisor.kp T.b_shared_divisor .nil pass0 (pa_cons (pv 0) pa_nil))) (pss_cons (ps_if (pt_cmpR op_lt (pv 1) pe_int (nomark _)) (pss_one (ps_ret (pv 0))) pss_nil) (pss_one (ps_ret (pe_lc (own := [("number", 2)]) (g := gName 2) (tt := tYes) rfl (sc_lowest_row).nd (pi_list (pv 0)) (blkOk_by (N := ["numbers", "share", "number"]) (sc := defScope s_lowest_row) (by decide +kernel)) (fun _ _ _ _ _ => pg_name (i := 2) (sc_lowest_row).nd rfl (Or.inl rfl)) (fun _ _ _ _ _ => pts_nil) (fun _ _ _ _ _ => (pe_op (op_divX ⟨Z.st, Z.ns, Z.tr, Z.dp⟩) (pv 2) (pv 1)))))))), fun ds d h => ?_⟩
    obtain ⟨ns, rfl, hl, rfl⟩ := h
    refine rd_seq (rd_set (ed_call (ea_cons (ed_var rfl) ea_nil) ⟨ns, rfl, rfl⟩) ?_)
    refine rd_seq (rd_if (et_test (ed_op (ed_var rfl) ed_int rv_lt)) (fun h => rd_ret (ed_var rfl) (.inl ?_)) fun h => rd_next ?_)
    · unfold lowRow
      rw [if_pos (of_decide_eq_true h)]
    · have h2 : ¬ (gcdL ns : Int) < 2 := of_decide_eq_false h
      refine rd_ret (ed_lc_list (ds := ns.map .int) (rs := (lowRow ns).map .int) (ed_var rfl) (by rw [List.length_map, List.length_map, low_len]) (by rw [List.length_map]; exact hl) fun k d r hd hr => ?_) (.inl rfl)
      obtain ⟨n, hn, rfl⟩ := map_get hd
      unfold lowRow at hr
      rw [if_neg h2, List.map_map] at hr
      obtain ⟨n', hn', rfl⟩ := map_get hr
      rw [hn] at hn'
      cases hn'
      exact ed_op (ed_var rfl) (ed_var rfl) (rv_div ⟨by omega, gcdL_dvd (get_mem hn)⟩)
def R_joint_row (ds : List Dat) (d : Dat) : Prop := ∃ (row : List Num) (due : Num) (at_ many n : Nat), ds = [colD row, num due, .int at_, .int many] ∧ (∀ q ∈ row, Good n q) ∧ Good n due ∧ n * (row.length + 2) ≤ 1048576 ∧ row.length ≤ 200 ∧ many ≤ 200 ∧ d = intsD (jointRow row due at_ many)
theorem ok_joint_row (T : Txt K mg) (B : Bas Pr base) : FnOk Pr w K mg base CX0 42 (He.ga K "joint_row") (fdAt K (He.ga K "joint_row")) ["row", "due", "at", "many"] (spF (sysOf K) R_joint_row) := by
  refine pure_ok (S := sysOf K) (k := 41) T.F_joint_row sc_joint_row (fun ds d h => ?_) (fun cdv A outer s H E hr => ?_)
  · obtain ⟨row, due, at_, many, n, rfl, _⟩ := h
    rfl
  · have Z := see_cx (CX := CX0) (Pr := Pr) (w := w) (K := K) (mg := mg) (outer := outer) (H := H) (E := E) B sc_joint_row hr (by decide)
    refine ⟨_, (pss_cons (ps_set (i := 4) (sc_joint_row).nd rfl (Or.inr rfl) (pe_ix ix_tup (pv 1) pe_int (fun _ _ => rfl))) (pss_cons (ps_for PassesOwn.never rfl (pi_list (pv 0)) (pg_name (i := 5) (sc_joint_row).nd rfl (Or.inl rfl)) (pss_one (ps_set (i := 4) (sc_joint_row).nd rfl (Or.inr rfl) (pe_op (op_divX Z) (pe_op op_mulX (pv 4) (pe_ix ix_tup (pv 5) pe_int (fun _ _ => rfl))) (pe_call (ok_shared_divisor T B) (hr.mono (by decide)) rfl T.g_shared_divisor T.F_shared_divisor.kp T.b_shared_divisor .nil pass0 (pa_cons (pe_lst (pa_cons (pv 4) (pa_cons (pe_ix ix_tup (pv 5) pe_int (fun _ _ => rfl)) pa_nil))) pa_nil)))))) (pss_cons (ps_setLc (i := 6) (own := [("number", 5)]) (g := gName 5) (tt := tYes) rfl (sc_joint_row).nd rfl rfl (sw_true rfl rfl rfl (by decide +kernel)) (pi_list (pv 0)) (blkOk_by (N := ["row", "due", "at", "many", "bottom", "number", "joint", "k"]) (sc := defScope s_joint_row) (by decide +kernel)) (fun _ _ _ _ _ => pg_name (i := 5) (sc_joint_row).nd rfl (Or.inl rfl)) (fun _ _ _ _ _ => pts_nil) (fun _ _ _ _ _ => (pe_op op_mulX (pe_ix (ix_tupK K) (pv 5) pe_int (fun _ _ => rfl)) (pe_op (op_divX ⟨Z.st, Z.ns, Z.tr, Z.dp⟩) (pv 4) (pe_ix (ix_tupK K) (pv 5) pe_int (fun _ _ => rfl)))))) (pss_cons (ps_expr (pe_bm PySem.F.plainAttrs_list PySem.F.slot_list_append PySem.F.type_list_append mt_append (pv 6) (pa_cons (pe_op op_mulX (pe_ix ix_tup (pv 1) pe_int (fun _ _ => rfl)) (pe_op (op_divX Z) (pv 4) (pe_ix ix_tup (pv 1) pe_int (fun _ _ => rfl)))) pa_nil))) (pss_cons (ps_for PassesOwn.never rfl (pi_range1 rfl T.n_range (pa_cons (pv 3) pa_nil)) (pg_name (i := 7) (sc_joint_row).nd rfl (Or.inl rfl)) (pss_one (ps_expr (pe_bm PySem.F.plainAttrs_list PySem.F.slot_list_append PySem.F.type_list_append mt_append (pv 6) (pa_cons (pe_ifExp (pt_cmpR op_eq (pv 7) (pv 2) (nomark _)) (pv 4) pe_int) pa_nil))))) (pss_one (ps_ret (pe_call (ok_lowest_row T B) (hr.mono (by decide)) rfl T.g_lowest_row T.F_lowest_row.kp T.b_lowest_row .nil pass0 (pa_cons (pv 6) pa_nil))))))))), fun ds d h => ?_⟩
    obtain ⟨row, due, at_, many, n, rfl, g1, g2, hn, hl, hm, rfl⟩ := h
    have bok : ∀ k, 0 < (row.take k).foldl lcmStep due.2 ∧ ((row.take k).foldl lcmStep due.2).natAbs < 2 ^ (n * (row.length + 1)) := fun k => by
      obtain ⟨a, _, _, d⟩ := bottom_ok (row := row.take k) (due := due) (fun q hq => g1 q (take_mem hq)) g2
      refine ⟨a, sz_le d (Nat.mul_le_mul_left _ ?_)⟩
      rw [List.length_take]
      omega
    refine rd_seq (rd_set (ed_n1 (ed_var rfl)) ?_)
    refine rd_seq (rd_for_list (ds := row.map num) (ed_var rfl) (fun k G => ∃ x y z, G = [some (colD row), some (num due), some (.int at_), some (.int many), some (.int ((row.take k).foldl lcmStep due.2)), x, y, z]) ⟨_, _, _, rfl⟩ ?_ ?_)
    · rintro k d G hd ⟨x, y, z, rfl⟩
      obtain ⟨q, hq, rfl⟩ := map_get hd
      have gq := g1 q (get_mem hq)
      obtain ⟨b1, b2⟩ := bok k
      refine ⟨_, tg_name, rd_set (ed_op (ed_op (ed_var rfl) (ed_n1 (ed_var rfl)) (rv_mul (mulOk b2 gq.1.2 (by simp only [Nat.mul_add] at hn ⊢; omega)))) (ed_call (ea_cons (ed_lst (ea_cons (ed_var rfl) (ea_cons (ed_n1 (ed_var rfl)) ea_nil))) ea_nil) ⟨[(row.take k).foldl lcmStep due.2, q.2], rfl, rfl⟩) (rv_div ⟨?_, ?_⟩)) ⟨some (num q), y, z, ?_⟩⟩
      · have := gcd2_pos (q := q.2) b1
        omega
      · exact Int.dvd_trans (gcdL_dvd (by simp)) (Int.dvd_mul_right _ _)
      · rw [take_more hq, List.foldl_append]
        rfl
    · rintro G ⟨x, y, z, rfl⟩
      rw [List.length_map, List.take_length]
      obtain ⟨b1, b2, b3, b4⟩ := bottom_ok g1 g2
      have em : ∀ (q : Num), Good n q → CMulX q.1 (bottomOf row due / q.2) := fun q hq => mulOk hq.1.1 (sz_div b4) (by simp only [Nat.mul_add] at hn ⊢; omega)
      refine rd_open (new_lc_list (ds := row.map num) (rs := (row.map fun q => q.1 * (bottomOf row due / q.2)).map .int) (ed_var rfl) (by simp) (by rw [List.length_map]; omega) fun k d r hd hr => ?_) (Nat.le_of_ble_eq_true rfl) ?_
      · obtain ⟨q, hq, rfl⟩ := map_get hd
        obtain ⟨v, hv, rfl⟩ := map_get hr
        obtain ⟨q', hq', rfl⟩ := map_get hv
        rw [hq] at hq'
        cases hq'
        have gq := g1 q (get_mem hq)
        exact ed_op (ed_n0 (ed_var rfl)) (ed_op (ed_var rfl) (ed_n1 (ed_var rfl)) (rv_div ⟨by have := gq.2; omega, b3 q (get_mem hq)⟩)) (rv_mul (em q gq))
      refine mo_seq (rm_append (EvD.l (ed_op (ed_n0 (ed_var rfl)) (ed_op (ed_var rfl) (ed_n1 (ed_var rfl)) (rv_div ⟨by have := g2.2; omega, b2⟩)) (rv_mul (em due g2)))) (by simp; omega) ?_)
      refine mo_seq (rm_for_range (n := (many : Int)) (EvD.l (ed_var rfl)) (by omega) (by omega) (fun k G w => ∃ x z, G = [some (colD row), some (num due), some (.int at_), some (.int many), some (.int (bottomOf row due)), x, none, z] ∧ w = .L (((row.map fun q => q.1 * (bottomOf row due / q.2)) ++ [due.1 * (bottomOf row due / due.2)] ++ (List.range k).map fun k => if k = at_ then bottomOf row due else 0).map .int)) ⟨_, _, rfl, by simp [bottomOf]⟩ ?_ ?_)
      · rintro k G w hk ⟨x, z, rfl, rfl⟩
        refine ⟨_, tm_name (by decide), rm_append (d := .int (if k = at_ then bottomOf row due else 0)) (EvD.l (ed_if (a := decide ((k : Int) = (at_ : Int))) ?_ ?_ ?_)) (by simp; omega) ⟨_, _, rfl, ?_⟩⟩
        · exact et_test (ed_op (ed_var rfl) (ed_var rfl) rv_eqI)
        · intro h
          have : k = at_ := by have := of_decide_eq_true h; omega
          rw [if_pos this]
          exact ed_var rfl
        · intro h
          have : ¬ k = at_ := by have := of_decide_eq_false h; omega
          rw [if_neg this]
          exact ed_int
        · simp only [List.range_succ, List.map_append, List.append_assoc]
          rfl
      · rintro G w ⟨x, z, rfl, rfl⟩
        refine mo_done (rd_ret (ed_call (ea_cons (ed_var rfl) ea_nil) ⟨jointRaw row due at_ many, ?_, ?_, rfl⟩) (.inl rfl))
        · unfold jointRaw intsD
          rw [Int.toNat_natCast]
          rfl
        · rw [jointRaw_len]
          omega
def rowsD (rs : List (List Int)) : Dat := .lst (rs.map intsD)
theorem rc_lenInts {S : Sys} {r : List Int} : RcD S (fun xs H Q => ∃ p ys, xs = [V.ref p] ∧ (SqL S.K H p ys ∨ SqT S.K H p ys) ∧ Q (.int ys.length) H) [intsD r] (.int (r.length : Int)) := by
  have h := rc_lenL (S := S) (ds := r.map .int)
  rwa [List.length_map] at h
theorem rc_lenRows {S : Sys} {r : List (List Int)} : RcD S (fun xs H Q => ∃ p ys, xs = [V.ref p] ∧ (SqL S.K H p ys ∨ SqT S.K H p ys) ∧ Q (.int ys.length) H) [rowsD r] (.int (r.length : Int)) := by
  have h := rc_lenL (S := S) (ds := r.map intsD)
  rwa [List.length_map] at h
theorem rc_lenCols {S : Sys} {r : List (List Num)} : RcD S (fun xs H Q => ∃ p ys, xs = [V.ref p] ∧ (SqL S.K H p ys ∨ SqT S.K H p ys) ∧ Q (.int ys.length) H) [colsD r] (.int (r.length : Int)) := by
  have h := rc_lenL (S := S) (ds := r.map colD)
  rwa [List.length_map] at h
theorem int_at {r : List Int} {z : Int} {k : Nat} (h : k < r.length) (e : z = (k : Int)) : atI (r.map Dat.int) z = some (.int (r.getD k 0)) := by
  refine at_ofD e ?_
  rw [List.getElem?_map, List.getD_eq_getElem?_getD, List.getElem?_eq_getElem h]
  rfl
theorem col_at {r : List (List Num)} {z : Int} {k : Nat} (h : k < r.length) (e : z = (k : Int)) : atI (r.map colD) z = some (colD (r.getD k [])) := by
  refine at_ofD e ?_
  rw [List.getElem?_map, List.getD_eq_getElem?_getD, List.getElem?_eq_getElem h]
  rfl
theorem row_at {r : List (List Int)} {z : Int} {k : Nat} (h : k < r.length) (e : z = (k : Int)) : atI (r.map intsD) z = some (intsD (r.getD k [])) := by
  refine at_ofD e ?_
  rw [List.getElem?_map, List.getD_eq_getElem?_getD, List.getElem?_eq_getElem h]
  rfl
def R_joint_rows (ds : List Dat) (d : Dat) : Prop := ∃ (rows : List (List Num)) (due : List Num) (n m : Nat), ds = [colsD rows, colD due] ∧ (∀ r ∈ rows, r.length = m ∧ ∀ q ∈ r, Good n q) ∧ (∀ q ∈ due, Good n q) ∧ due.length = rows.length ∧ n * (m + 2) ≤ 1048576 ∧ m ≤ 200 ∧ rows.length ≤ 200 ∧ d = rowsD (jointRows rows due)
theorem ok_joint_rows (T : Txt K mg) (B : Bas Pr base) : FnOk Pr w K mg base CX0 43 (He.ga K "joint_rows") (fdAt K (He.ga K "joint_rows")) ["rows", "dues"] (spF (sysOf K) R_joint_rows) := by
  refine pure_ok (S := sysOf K) (k := 42) T.F_joint_rows sc_joint_rows (fun ds d h => ?_) (fun cdv A outer s H E hr => ?_)
  · obtain ⟨rows, due, n, m, rfl, _⟩ := h
    rfl
  · refine ⟨_, (pss_one (ps_ret (pe_lc (own := [("k", 2)]) (g := gName 2) (tt := tYes) rfl (sc_joint_rows).nd (pi_range1 rfl T.n_range (pa_cons (pe_callB call_len_seq (by rfl) T.n_len (by decide +kernel) (pa_cons (pv 0) pa_nil)) pa_nil)) (blkOk_by (N := ["rows", "dues", "k"]) (sc := defScope s_joint_rows) (by decide +kernel)) (fun _ _ _ _ _ => pg_name (i := 2) (sc_joint_rows).nd rfl (Or.inl rfl)) (fun _ _ _ _ _ => pts_nil) (fun _ _ _ _ _ => (pe_call (ok_joint_row T B) (hr.mono (by decide)) rfl T.g_joint_row T.F_joint_row.kp T.b_joint_row .nil pass0 (pa_cons (pe_ix (ix_listK K) (pv 0) (pv 2) (fun _ _ => rfl)) (pa_cons (pe_ix (ix_listK K) (pv 1) (pv 2) (fun _ _ => rfl)) (pa_cons (pv 2) (pa_cons (pe_callB (len_seqK K) (by rfl) T.n_len (by decide +kernel) (pa_cons (pv 0) pa_nil)) pa_nil))))))))), fun ds d h => ?_⟩
    obtain ⟨rows, due, n, m, rfl, g1, g2, hl, hn, hm, hr2, rfl⟩ := h
    refine rd_ret (ed_lc_range (n := (rows.length : Int)) (rs := (jointRows rows due).map intsD) (ed_cb (ea_cons (ed_var rfl) ea_nil) rc_lenCols) (by omega) (by unfold jointRows; simp) (by omega) fun k r hr => ?_) (.inl rfl)
    obtain ⟨q, hq, rfl⟩ := map_get hr
    unfold jointRows at hq
    obtain ⟨k', hk', rfl⟩ := map_get hq
    have hk := (List.getElem?_eq_some_iff.mp hk').1
    rw [List.length_range] at hk
    rw [List.getElem?_range hk] at hk'
    cases hk'
    obtain ⟨e1, e2⟩ := g1 _ (getD_mem (a := []) hk)
    exact ed_call (ea_cons (ed_op (ed_var rfl) (ed_var rfl) (rv_ixL (col_at hk rfl))) (ea_cons (ed_op (ed_var rfl) (ed_var rfl) (rv_ixL (num_at (by omega) rfl))) (ea_cons (ed_var rfl) (ea_cons (ed_cb (ea_cons (ed_var rfl) ea_nil) rc_lenCols) ea_nil))))
      ⟨rows.getD k [], due.getD k (0, 1), k, rows.length, n, rfl, e2, g2 _ (getD_mem (by omega)), by rw [e1]; exact hn, by omega, hr2, rfl⟩
def R_cleared_row (ds : List Dat) (d : Dat) : Prop := ∃ (one lead : List Int) (c b : Nat), ds = [intsD one, intsD lead, .int c] ∧ lead.length = one.length ∧ c < one.length ∧ one.length ≤ 1000 ∧ Bd b one ∧ Bd b lead ∧ b + b ≤ 134217728 ∧ d = intsD (clearRow one lead c)
theorem ok_cleared_row (T : Txt K mg) (B : Bas Pr base) : FnOk Pr w K mg base CX0 42 (He.ga K "cleared_row") (fdAt K (He.ga K "cleared_row")) ["one", "lead", "column"] (spF (sysOf K) R_cleared_row) := by
  refine pure_ok (S := sysOf K) (k := 41) T.F_cleared_row sc_cleared_row (fun ds d h => ?_) (fun cdv A outer s H E hr => ?_)
  · obtain ⟨one, lead, c, b, rfl, _⟩ := h
    rfl
  · refine ⟨_, (pss_cons (ps_set (i := 3) (sc_cleared_row).nd rfl (Or.inr rfl) (pe_ix ix_list (pv 1) (pv 2) (fun _ _ => rfl))) (pss_cons (ps_set (i := 4) (sc_cleared_row).nd rfl (Or.inr rfl) (pe_ix ix_list (pv 0) (pv 2) (fun _ _ => rfl))) (pss_cons (ps_if (pt_cmpR op_eq (pv 4) pe_int (nomark _)) (pss_one (ps_ret (pv 0))) pss_nil) (pss_one (ps_ret (pe_call (ok_lowest_row T B) (hr.mono (by decide)) rfl T.g_lowest_row T.F_lowest_row.kp T.b_lowest_row .nil pass0 (pa_cons (pe_lc (own := [("k", 5)]) (g := gName 5) (tt := tYes) rfl (sc_cleared_row).nd (pi_range1 rfl T.n_range (pa_cons (pe_callB call_len_seq (by rfl) T.n_len (by decide +kernel) (pa_cons (pv 0) pa_nil)) pa_nil)) (blkOk_by (N := ["one", "lead", "column", "over", "under", "k"]) (sc := defScope s_cleared_row) (by decide +kernel)) (fun _ _ _ _ _ => pg_name (i := 5) (sc_cleared_row).nd rfl (Or.inl rfl)) (fun _ _ _ _ _ => pts_nil) (fun _ _ _ _ _ => (pe_op op_sub (pe_op op_mulX (pv 3) (pe_ix (ix_listK K) (pv 0) (pv 5) (fun _ _ => rfl))) (pe_op op_mulX (pv 4) (pe_ix (ix_listK K) (pv 1) (pv 5) (fun _ _ => rfl)))))) pa_nil))))))), fun ds d h => ?_⟩
    obtain ⟨one, lead, c, b, rfl, hl, hc, hz, b1, b2, hb, rfl⟩ := h
    refine rd_seq (rd_set (ed_op (ed_var rfl) (ed_var rfl) (rv_ixL (int_at (k := c) (by omega) rfl))) ?_)
    refine rd_seq (rd_set (ed_op (ed_var rfl) (ed_var rfl) (rv_ixL (int_at (k := c) hc rfl))) ?_)
    refine rd_seq (rd_if (et_test (ed_op (ed_var rfl) ed_int rv_eqI)) (fun h => rd_ret (ed_var rfl) (.inl ?_)) fun h => rd_next ?_)
    · unfold clearRow
      rw [if_pos (of_decide_eq_true h)]
    · refine rd_ret (ed_call (ea_cons (ed_lc_range (n := (one.length : Int)) (rs := (clearRaw one lead c).map .int) (ed_cb (ea_cons (ed_var rfl) ea_nil) rc_lenInts) (by omega) (by unfold clearRaw; simp) (by omega) fun k r hr => ?_) ea_nil) ⟨clearRaw one lead c, rfl, by unfold clearRaw; simpa using hz, rfl⟩) (.inl ?_)
      · obtain ⟨q, hq, rfl⟩ := map_get hr
        unfold clearRaw at hq
        obtain ⟨k', hk', rfl⟩ := map_get hq
        have hk := (List.getElem?_eq_some_iff.mp hk').1
        rw [List.length_range] at hk
        rw [List.getElem?_range hk] at hk'
        cases hk'
        exact ed_op (ed_op (ed_var rfl) (ed_op (ed_var rfl) (ed_var rfl) (rv_ixL (int_at hk rfl))) (rv_mul (mulOk (b2.getD c) (b1.getD k) hb))) (ed_op (ed_var rfl) (ed_op (ed_var rfl) (ed_var rfl) (rv_ixL (int_at (by omega) rfl))) (rv_mul (mulOk (b1.getD c) (b2.getD k) hb))) rv_sub
      · unfold clearRow
        rw [if_neg (of_decide_eq_false h)]
def R_parts_of (ds : List Dat) (d : Dat) : Prop := ∃ (ns : List Int) (b : Int), ds = [intsD ns, .int b] ∧ b ≠ 0 ∧ ns.length ≤ 1000 ∧ d = colD (ns.map fun n => ratioOf n b)
theorem ok_parts_of (T : Txt K mg) (B : Bas Pr base) : FnOk Pr w K mg base CX0 42 (He.ga K "parts_of") (fdAt K (He.ga K "parts_of")) ["numbers", "bottom"] (spF (sysOf K) R_parts_of) := by
  refine pure_ok (S := sysOf K) (k := 41) T.F_parts_of sc_parts_of (fun ds d h => ?_) (fun cdv A outer s H E hr => ?_)
  · obtain ⟨ns, b, rfl, _⟩ := h
    rfl
  · refine ⟨_, (pss_one (ps_ret (pe_lc (own := [("number", 2)]) (g := gName 2) (tt := tYes) rfl (sc_parts_of).nd (pi_list (pv 0)) (blkOk_by (N := ["numbers", "bottom", "number"]) (sc := defScope s_parts_of) (by decide +kernel)) (fun _ _ _ _ _ => pg_name (i := 2) (sc_parts_of).nd rfl (Or.inl rfl)) (fun _ _ _ _ _ => pts_nil) (fun _ _ _ _ _ => (pe_call (ok_ratio_of T B) (hr.mono (by decide)) rfl T.g_ratio_of T.F_ratio_of.kp T.b_ratio_of .nil pass0 (pa_cons (pv 2) (pa_cons (pv 1) pa_nil))))))), fun ds d h => ?_⟩
    obtain ⟨ns, b, rfl, hb, hl, rfl⟩ := h
    refine rd_ret (ed_lc_list (ds := ns.map .int) (rs := (ns.map fun n => ratioOf n b).map num) (ed_var rfl) (by simp) (by simpa using hl) fun k d r hd hr => ?_) (.inl rfl)
    obtain ⟨n, hn, rfl⟩ := map_get hd
    obtain ⟨q, hq, rfl⟩ := map_get hr
    obtain ⟨n', hn', rfl⟩ := map_get hq
    rw [hn] at hn'
    cases hn'
    exact ed_call (ea_cons (ed_var rfl) (ea_cons (ed_var rfl) ea_nil)) ⟨n, b, rfl, hb, rfl⟩
end
end Ty
set_option Elab.async false
set_option linter.all false
set_option maxRecDepth 100000
set_option maxHeartbeats 4000000
/-! led_rows, solve_rows. -/
namespace Ty
open PySem PySem.Spec PyProof.Rows L2
section
variable {S : Sys} {i : Nat} {te : TE} {G : Gam} {w : Own} {t u : TS} {P : OutM → Prop} {c : TT}
theorem rm_while (I : Nat → Gam → Own → Prop) (m0 : Nat) (h0 : I m0 G w)
    (hs : ∀ m G w, I m G w → ∃ b, EvT S c G b ∧ (b = true → RunM S i t G w (TurnsM (fun G' w' => ∃ m', m' < m ∧ I m' G' w') P)) ∧ (b = false → P (.nx G w))) : RunM S i (tWhile c t) G w P := fun σ H1 H Ds D e E a f => by
  refine ⟨fun m σ' H' => ∃ H2 G' w', StepM D H1 H H2 H' ∧ EnvD S H2 σ' G' ∧ AtO S i σ' H2 H' D w' ∧ I m G' w', ⟨m0, H1, G, w, StepM.refl e a.ap, E, a, h0⟩, ?_⟩
  rintro m σ' H' ⟨H2, G', w', s, E', a', ii⟩
  obtain ⟨b, ht, hT, hF⟩ := hs m G' w' ii
  refine ht σ' H2 H' s.s2 E' _ fun H3 H'' s2 => ?_
  obtain ⟨a3, m3⟩ := a'.step s2
  cases b with
  | true => exact iteT ⟨_, fun _ _ n => n, hT rfl σ' H3 H'' _ D s2.s2 (E'.mono s2.s1) a3 (FinM.turns (s.trans m3) f fun G3 w3 ⟨m', l, i'⟩ σ3 H4 H4' s3 E3 a3 => ⟨m', l, H4, G3, w3, (s.trans m3).trans s3, E3, a3, i'⟩)⟩
  | false => exact iteF (f.nx G' w' (hF rfl) σ' H3 H'' (s.trans m3) (E'.mono s2.s1) a3)
def RunX (S : Sys) (ts : TS) (G : Gam) (R : Addr → Dat → Own → Prop) : Prop := ∀ σ H1 H (Ds : Ends), Same H1 H → EnvD S H1 σ G → (∀ H2 H' D o v d wf, Step H1 H H2 H' → H D = none → H2 D = none → H' D = some o → OwnAt S H2 o wf → Dt S H2 v d → R D d wf → Ds.rt v H') → ts Ds σ H
theorem rx_new {R : Addr → Dat → Own → Prop} (h : NewO S te G w) (hi : i < G.length) (hb : RunMX S i u (G.set i none) w R) : RunX S (tSeq (tAsg te (gName i)) u) G R := fun σ H1 H Ds e E q =>
  h σ H1 H e E _ fun H2 H' D o s hD hn ho hw =>
    hb (σ.set i (some (.ref D))) H2 H' Ds D s.s2 (E.mono s.s1).setN ⟨List.getElem?_set_self (by rw [E.len]; exact hi), hn, o, ho, hw⟩ fun H3 H'' o' v d wf m ho' hw' dv r =>
      q H3 H'' D o' v d wf (step_ownM s m hD) hD m.nd ho' hw' dv r
def spX {ι : Type} (S : Sys) (Dm : List Dat → ι → Prop) (R : ι → Addr → Dat → Own → Prop) : Sp := fun vs H Q _ => ∃ H1 ds j, Same H1 H ∧ DtA S H1 vs ds ∧ Dm ds j ∧ ∀ H2 H' D o v d wf, Step H1 H H2 H' → H D = none → H2 D = none → H' D = some o → OwnAt S H2 o wf → Dt S H2 v d → R j D d wf → Q v H'
theorem ownx_ok {ι : Type} {Pr : Program} {ww : World} {mg : Str → Option Value} {base : Heap} {x qual : Str} {params : Arguments} {body : List Stmt} {scope : Scope} {dvs : List V} {kws : List (Str × V)} {f : Addr} {fd : FuncData}
    {CX : CXT} {N ps : List Str} {k : Nat} {Dm : List Dat → ι → Prop} {R : ι → Addr → Dat → Own → Prop} (F : FunD S.K x qual params body scope dvs kws f fd) (sc : FnScope N ps scope) (len : ∀ ds j, Dm ds j → ds.length = ps.length)
    (hbody : ∀ (cdv : Value) (A : Around) (outer : List Env) (s : Shared) (H : Hp) (E : XK), Room k (A.deeper (envOfC qual scope s.heap.objs.size f cdv)) →
      ∃ t, PSs (cxOf CX Pr ww S.K mg base N qual scope f cdv A outer s H E).nox body t ∧ ∀ ds j, Dm ds j → RunX S t (start0 N ds) (R j)) : FnOk Pr ww S.K mg base CX (k + 1) f fd ps (spX S Dm R) := by
  refine FunD.ok F sc (fun vs H Q E h => ?_) (fun cdv A outer s H vs Q E hr h => ?_)
  · obtain ⟨H1, ds, j, _, dv, r, _⟩ := h
    rw [dv.length]
    exact len ds j r
  · obtain ⟨H1, ds, j, e, dv, r, q⟩ := h
    obtain ⟨t, ht, hR⟩ := hbody cdv A outer s H E hr
    exact ⟨t, ht.nox, hR ds j r _ H1 H _ e (env_start dv) q⟩
end
theorem valD_mid {κ α : Type} [DecidableEq κ] {k : κ} {x : α} {B : List (κ × α)} : ∀ {A : List (κ × α)}, ¬ k ∈ A.map (·.1) → valD (A ++ (k, x) :: B) k = some x
  | [], _ => by simp [valD]
  | a :: A, h => by
    have ne : ¬ a.1 = k := fun e => h (by simp [e])
    have ih := valD_mid (k := k) (x := x) (B := B) (A := A) fun m => h (by simp only [List.map_cons, List.mem_cons]; exact .inr m)
    unfold valD at ih ⊢
    rw [List.cons_append, List.find?_cons, decide_eq_false ne]
    exact ih
theorem map_not {κ α : Type} [DecidableEq κ] {k : κ} {y : α} : ∀ {A : List (κ × α)}, ¬ k ∈ A.map (·.1) → A.map (fun kv => if kv.1 = k then (kv.1, y) else kv) = A
  | [], _ => rfl
  | a :: A, h => by
    have ne : ¬ a.1 = k := fun e => h (by simp [e])
    rw [List.map_cons, if_neg ne, map_not fun m => h (by simp only [List.map_cons, List.mem_cons]; exact .inr m)]
theorem putD_mid {κ α : Type} [DecidableEq κ] {k : κ} {x y : α} {A B : List (κ × α)} (hA : ¬ k ∈ A.map (·.1)) (hB : ¬ k ∈ B.map (·.1)) : putD (A ++ (k, x) :: B) k y = A ++ (k, y) :: B := by
  unfold putD
  have h : ((A ++ (k, x) :: B).any fun kv => decide (kv.1 = k)) = true := List.any_eq_true.mpr ⟨(k, x), by simp, by simp⟩
  rw [if_pos h, List.map_append, List.map_cons, map_not hA, map_not hB, if_pos rfl]
def leadsK (l : Leads) : List (Key × Dat) := l.map fun p => ((Sum.inl (p.1 : Int) : Key), intsD p.2)
theorem leads_keys {l : Leads} {k : Nat} (h : ¬ k ∈ l.map (·.1)) : ¬ (Sum.inl (k : Int) : Key) ∈ (leadsK l).map (·.1) := by
  intro m
  unfold leadsK at m
  rw [List.map_map] at m
  obtain ⟨p, hp, e⟩ := List.mem_map.mp m
  have e2 : (p.1 : Int) = (k : Int) := by
    have : (Sum.inl (p.1 : Int) : Key) = Sum.inl (k : Int) := e
    simpa using this
  exact h (List.mem_map.mpr ⟨p, hp, by omega⟩)
theorem pw_mid {l : List Nat} (h : l.Pairwise (· < ·)) {A B : List Nat} {k : Nat} (e : l = A ++ k :: B) : ¬ k ∈ A ∧ ¬ k ∈ B := by
  subst e
  obtain ⟨h1, h2, h3⟩ := List.pairwise_append.mp h
  refine ⟨fun m => ?_, fun m => ?_⟩
  · have := h3 k m k (by simp)
    omega
  · have := (List.pairwise_cons.mp h2).1 k m
    omega
theorem split_at {α : Type} {l : List α} {k : Nat} {x : α} (h : l[k]? = some x) : l = l.take k ++ x :: l.drop (k + 1) := by
  obtain ⟨hl, rfl⟩ := List.getElem?_eq_some_iff.mp h
  simp
section
variable {Pr : Program} {w : World} {K : PySem.W.Frag} {mg : Str → Option Value} {base : Heap}
structure LedOk (js : List (List Int)) (many L c : Nat) : Prop where
  c1 : 1 ≤ c
  c2 : c ≤ 131072
  l : ∀ r ∈ js, r.length = L
  b : ∀ r ∈ js, Bd (c - 1) r
  n : js.length ≤ 10
  m : many ≤ 200
  m2 : many < L
  z : L ≤ 500
def Dm_led_rows (ds : List Dat) (j : List (List Int) × Nat) : Prop := ∃ (L c : Nat), ds = [rowsD j.1, .int (j.2 : Int)] ∧ LedOk j.1 j.2 L c
def R_led_rows (j : List (List Int) × Nat) (D : Addr) (d : Dat) (wf : Own) : Prop := d = .tup [.ptr D, rowsD (ledRows j.1 j.2).2] ∧ wf = .K (leadsK (ledRows j.1 j.2).1)
theorem bits_ok {s c : Nat} (hs : s ≤ 9) (hc : c ≤ 131072) : (2 ^ s * c - 1) + (2 ^ s * c - 1) ≤ 134217728 := by
  have h1 : 2 ^ s ≤ 2 ^ 9 := Nat.pow_le_pow_right (by decide) hs
  have h2 : 2 ^ s * c ≤ 2 ^ 9 * 131072 := Nat.mul_le_mul h1 hc
  omega
theorem firstAt_upto {rest : List (List Int)} {c a : Nat} (h : ∀ j, j < a → (rest.getD j []).getD c 0 = 0) (ha : a ≤ rest.length) : a ≤ firstAt rest c := by
  by_cases z : a ≤ firstAt rest c
  · exact z
  · have hl : firstAt rest c < rest.length := by omega
    obtain ⟨_, hp⟩ := first_ne (rest := rest) (c := c) (by omega)
    exact absurd (h _ (by omega)) hp
theorem firstAt_is {rest : List (List Int)} {c a : Nat} (h : a ≤ firstAt rest c) (ha : a < rest.length) (hp : (rest.getD a []).getD c 0 ≠ 0) : firstAt rest c = a := by
  by_cases z : firstAt rest c = a
  · exact z
  · have hl : a < firstAt rest c := by omega
    have h0 := List.not_of_lt_findIdx hl
    have e : rest.getD a [] = rest[a] := by rw [List.getD_eq_getElem?_getD, List.getElem?_eq_getElem ha]; rfl
    rw [e] at hp
    exact absurd hp (by simpa using h0)
theorem ok_led_rows (T : Txt K mg) (B : Bas Pr base) : FnOk Pr w K mg base CX0 43 (He.ga K "led_rows") (fdAt K (He.ga K "led_rows")) ["joints", "many"] (spX (sysOf K) Dm_led_rows R_led_rows) := by
  refine ownx_ok (S := sysOf K) (k := 42) T.F_led_rows sc_led_rows (fun ds j h => ?_) (fun cdv A outer s H E hr => ?_)
  · obtain ⟨L, c, rfl, _⟩ := h
    rfl
  · refine ⟨_, (pss_cons (ps_set (i := 2) (sc_led_rows).nd rfl (Or.inl rfl) pe_dnewK) (pss_cons (ps_set (i := 3) (sc_led_rows).nd rfl (Or.inl rfl) (pv 0)) (pss_cons (ps_for PassesOwn.never rfl (pi_range1 rfl T.n_range (pa_cons (pv 1) pa_nil)) (pg_name (i := 4) (sc_led_rows).nd rfl (Or.inr rfl)) (pss_cons (ps_set (i := 5) (sc_led_rows).nd rfl (Or.inl rfl) pe_int) (pss_cons (ps_while PassesOwn.never (PW.pt (pw_and (pt_cmpR op_lt (pv 5) (pe_callB call_len_seq (by rfl) T.n_len (by decide +kernel) (pa_cons (pv 3) pa_nil)) (nomark _)) (pw_and1 (pt_cmpR op_eq (pe_ix ix_list (pe_ix ix_list (pv 3) (pv 5) (fun _ _ => rfl)) (pv 4) (fun _ _ => rfl)) pe_int (nomark _))))) (pss_one (ps_set (i := 5) (sc_led_rows).nd rfl (Or.inl rfl) (pe_op op_add (pv 5) pe_int)))) (pss_cons (ps_if (pt_cmpR op_eq (pv 5) (pe_callB call_len_seq (by rfl) T.n_len (by decide +kernel) (pa_cons (pv 3) pa_nil)) (nomark _)) (pss_one ps_continue) pss_nil) (pss_cons (ps_set (i := 6) (sc_led_rows).nd rfl (Or.inr rfl) (pe_ix ix_list (pv 3) (pv 5) (fun _ _ => rfl))) (pss_cons (ps_setLc (i := 3) (own := [("one", 8)]) (g := gName 8) (tt := tYes) rfl (sc_led_rows).nd rfl rfl (sw_true rfl rfl rfl (by decide +kernel)) (pi_list (pe_op op_cat (pe_slice sl_list (pv 3) po_none (po_some (pv 5))) (pe_slice sl_list (pv 3) (po_some (pe_op op_add (pv 5) pe_int)) po_none))) (blkOk_by (N := ["joints", "many", "leads", "rest", "column", "at", "lead", "other", "one"]) (sc := defScope s_led_rows) (by decide +kernel)) (fun _ _ _ _ _ => pg_name (i := 8) (sc_led_rows).nd rfl (Or.inl rfl)) (fun _ _ _ _ _ => pts_nil) (fun _ _ _ _ _ => (pe_call (ok_cleared_row T B) (hr.mono (by decide)) rfl T.g_cleared_row T.F_cleared_row.kp T.b_cleared_row .nil pass0 (pa_cons (pv 8) (pa_cons (pv 6) (pa_cons (pv 4) pa_nil)))))) (pss_cons (ps_for PassesOwn.never rfl (pi_list (pe_callTy (call_list_dK rfl) (by rfl) T.n_list (by decide +kernel) (pa_cons (pv 2) pa_nil))) (pg_name (i := 7) (sc_led_rows).nd rfl (Or.inl rfl)) (pss_one (ps_dput (hu_of hr) (pv 2) (pv 7) (pe_call (ok_cleared_row T B) (hr.mono (by decide)) rfl T.g_cleared_row T.F_cleared_row.kp T.b_cleared_row .nil pass0 (pa_cons (pe_dget (hu_of hr) (pv 2) (pv 7) (fun _ _ => rfl)) (pa_cons (pv 6) (pa_cons (pv 4) pa_nil)))) rfl))) (pss_one (ps_dput (hu_of hr) (pv 2) (pv 4) (pv 6) rfl))))))))) (pss_one (ps_ret (pe_tup (pa_cons (pv 2) (pa_cons (pv 3) pa_nil)))))))), fun ds ⟨js, many⟩ h => ?_⟩
    obtain ⟨L, c, rfl, ok⟩ := h
    dsimp only at ok ⊢
    have inv := fun k => led_inv ok.c1 ok.l ok.b k
    refine rx_new new_K (Nat.le_of_ble_eq_true rfl) ?_
    refine mx_seq (rm_set (by decide) (EvD.l (ed_var rfl)) ?_)
    refine mx_seq (rm_for_range (n := (many : Int)) (EvD.l (ed_var rfl)) (by have := ok.m; omega) (by omega) (fun k G w => ∃ x4 x5 x6 x7 x8, G = [some (rowsD js), some (.int (many : Int)), none, some (rowsD (ledTo js k).2), x4, x5, x6, x7, x8] ∧ w = .K (leadsK (ledTo js k).1)) ⟨_, _, _, _, _, rfl, rfl⟩ ?_ ?_)
    · rintro k G w hk ⟨x4, x5, x6, x7, x8, rfl, rfl⟩
      have hk : k < many := by omega
      have iv := inv k
      have e1 := ledTo_succ js k
      revert iv e1
      generalize ledTo js k = st
      generalize ledTo js (k + 1) = st2
      obtain ⟨leads, rest⟩ := st
      rintro iv rfl
      have hct : leads.length + rest.length = js.length := iv.ct
      have hn10 := ok.n
      refine ⟨_, tm_name (by decide), rm_seq (rm_set (by decide) (EvD.l ed_int) ?_)⟩
      refine rm_seq (rm_while (fun m G w => ∃ a : Nat, G = [some (rowsD js), some (.int (many : Int)), none, some (rowsD rest), some (.int (k : Int)), some (.int (a : Int)), x6, x7, x8] ∧ w = .K (leadsK leads) ∧ a ≤ rest.length ∧ a ≤ firstAt rest k ∧ m = rest.length - a) rest.length ⟨0, rfl, rfl, Nat.zero_le _, Nat.zero_le _, rfl⟩ ?_)
      rintro m G w ⟨a, rfl, rfl, ha, haf, rfl⟩
      refine ⟨decide ((a : Int) < (rest.length : Int)) && decide ((rest.getD a []).getD k 0 = 0), ?_, fun hb => ?_, fun hb => ?_⟩
      · refine et_and (et_test (ed_op (ed_var rfl) (ed_cb (ea_cons (ed_var rfl) ea_nil) rc_lenRows) rv_lt)) fun h => ?_
        have hl : a < rest.length := by have := of_decide_eq_true h; omega
        refine et_test (ed_op (ed_op (ed_op (ed_var rfl) (ed_var rfl) (rv_ixL (row_at hl rfl))) (ed_var rfl) (rv_ixL (int_at (k := k) ?_ rfl))) ed_int rv_eqI)
        have h1 : (rest.getD a []).length = L := iv.l2 _ (getD_mem (a := []) hl)
        have h2 := ok.m2
        omega
      · obtain ⟨b1, b2⟩ := Bool.and_eq_true_iff.mp hb
        have hl : a < rest.length := by have := of_decide_eq_true b1; omega
        have hz := of_decide_eq_true b2
        refine rm_set (by decide) (EvD.l (ed_op (ed_var rfl) ed_int rv_add)) ⟨rest.length - (a + 1), by omega, a + 1, rfl, rfl, hl, ?_, rfl⟩
        rcases Nat.lt_or_ge a (firstAt rest k) with q | q
        · exact q
        · exfalso
          have e : firstAt rest k = a := by omega
          have := (first_ne (rest := rest) (c := k) (by omega)).2
          rw [e] at this
          exact this hz
      · have hcase : (a = rest.length ∧ firstAt rest k = rest.length) ∨ (a < rest.length ∧ firstAt rest k = a) := by
          rcases Nat.lt_or_ge a rest.length with q | q
          · refine .inr ⟨q, firstAt_is haf q ?_⟩
            have q2 : decide ((a : Int) < (rest.length : Int)) = true := decide_eq_true (by omega)
            rw [q2, Bool.true_and] at hb
            exact of_decide_eq_false hb
          · have : firstAt rest k ≤ rest.length := List.findIdx_le_length
            exact .inl ⟨by omega, by omega⟩
        refine rm_seq (rm_if (b := decide ((a : Int) = (rest.length : Int))) (et_test (ed_op (ed_var rfl) (ed_cb (ea_cons (ed_var rfl) ea_nil) rc_lenRows) rv_eqI)) (fun h => ?_) fun h => ?_)
        · have ea : a = rest.length := by have := of_decide_eq_true h; omega
          have ef : firstAt rest k = rest.length := by omega
          have es : stepCol (leads, rest) k = (leads, rest) := by
            unfold stepCol
            dsimp only
            rw [if_pos ef]
          rw [es]
          exact rm_cont ⟨_, _, _, _, _, rfl, rfl⟩
        · have ea : a < rest.length := by have := of_decide_eq_false h; omega
          have ef : firstAt rest k = a := by omega
          have ne : ¬ firstAt rest k = rest.length := by omega
          have hm : rest.getD a [] ∈ rest := getD_mem ea
          have es : stepCol (leads, rest) k = (leads.map (fun p => (p.1, clearRow p.2 (rest.getD a []) k)) ++ [(k, rest.getD a [])], (rest.take a ++ rest.drop (a + 1)).map fun r => clearRow r (rest.getD a []) k) := by
            unfold stepCol
            dsimp only
            rw [if_neg ne, ef]
          rw [es]
          refine rm_next ?_
          refine rm_seq (rm_set (by decide) (EvD.l (ed_op (ed_var rfl) (ed_var rfl) (rv_ixL (row_at ea rfl)))) ?_)
          revert hm
          generalize rest.getD a [] = lead
          intro hm
          have hL := iv.l2 lead hm
          have hB := iv.b2 lead hm
          have s9 : leads.length ≤ 9 := by omega
          have bo := bits_ok s9 ok.c2
          have hz := ok.z
          have hm2 := ok.m2
          refine rm_seq (rm_set (by decide) (EvD.l (ed_lc_list (ds := (rest.take a ++ rest.drop (a + 1)).map intsD) (rs := ((rest.take a ++ rest.drop (a + 1)).map fun r => clearRow r lead k).map intsD) ((ed_cat (ed_sl (ds := rest.map intsD) (ed_var rfl) eo_none (eo_some (ed_var rfl))) (ed_sl (ds := rest.map intsD) (ed_var rfl) (eo_some (n := ((a + 1 : Nat) : Int)) (ed_op (ed_var rfl) ed_int rv_add)) eo_none) ?_).to ?_) (by simp) (by simp; omega) fun j d r hd hr => ?_)) ?_)
          · rw [cut_to, cut_from]
            simp
            omega
          · rw [cut_to, cut_from, List.map_append, List.map_take, List.map_drop]
          · obtain ⟨one, h1, rfl⟩ := map_get hd
            obtain ⟨r', h2, rfl⟩ := map_get hr
            obtain ⟨one', h3, rfl⟩ := map_get h2
            rw [h1] at h3
            cases h3
            have ho := mem_cut (get_mem h1)
            exact ed_call (ea_cons (ed_var rfl) (ea_cons (ed_var rfl) (ea_cons (ed_var rfl) ea_nil))) ⟨one, lead, k, _, rfl, by rw [hL, iv.l2 _ ho], by rw [iv.l2 _ ho]; omega, by rw [iv.l2 _ ho]; omega, iv.b2 _ ho, hB, bo, rfl⟩
          · refine rm_seq (rm_for_list (ds := (leadsK leads).map fun kv => keyD kv.1) elL_keys (fun j G w => ∃ x7 x8, G = [some (rowsD js), some (.int (many : Int)), none, some (rowsD ((rest.take a ++ rest.drop (a + 1)).map fun r => clearRow r lead k)), some (.int (k : Int)), some (.int (a : Int)), some (intsD lead), x7, x8] ∧ w = .K (leadsK ((leads.take j).map (fun p => (p.1, clearRow p.2 lead k)) ++ leads.drop j))) ⟨_, _, rfl, by simp⟩ ?_ ?_)
            · rintro j d G w hd ⟨x7, x8, rfl, rfl⟩
              obtain ⟨kv, h1, rfl⟩ := map_get hd
              unfold leadsK at h1
              obtain ⟨p, hp, rfl⟩ := map_get h1
              have hpm := get_mem hp
              have esp := split_at hp
              have eks : leads.map (·.1) = (leads.take j).map (·.1) ++ p.1 :: (leads.drop (j + 1)).map (·.1) := by
                rw [← List.map_cons (f := fun q : Nat × List Int => q.1), ← List.map_append, ← esp]
              obtain ⟨n1, n2⟩ := pw_mid iv.ks eks
              have edr : leads.drop j = p :: leads.drop (j + 1) := by
                obtain ⟨hl, rfl⟩ := List.getElem?_eq_some_iff.mp hp
                exact List.drop_eq_getElem_cons hl
              have n1' : ¬ p.1 ∈ ((leads.take j).map (fun p => (p.1, clearRow p.2 lead k))).map (·.1) := by
                rw [List.map_map]
                exact n1
              have ew : leadsK ((leads.take j).map (fun p => (p.1, clearRow p.2 lead k)) ++ leads.drop j) = leadsK ((leads.take j).map (fun p => (p.1, clearRow p.2 lead k))) ++ ((Sum.inl (p.1 : Int) : Key), intsD p.2) :: leadsK (leads.drop (j + 1)) := by
                rw [edr]
                unfold leadsK
                rw [List.map_append, List.map_cons]
              rw [ew]
              have hlen : leads.length ≤ 10 := by omega
              refine ⟨_, tm_name (by decide), rm_dput (k := .inl (p.1 : Int)) (d := intsD (clearRow p.2 lead k)) (elL_call (ds := [intsD p.2, intsD lead, .int (k : Int)]) (eaL_cons (elL_get (k := .inl (p.1 : Int)) (ed_var rfl) (valD_mid (leads_keys n1'))) (eaL_cons (EvD.l (ed_var rfl)) (eaL_cons (EvD.l (ed_var rfl)) eaL_nil))) ⟨p.2, lead, k, _, rfl, by rw [hL, iv.l1 _ hpm], by rw [iv.l1 _ hpm]; omega, by rw [iv.l1 _ hpm]; omega, iv.b1 _ hpm, hB, bo, rfl⟩) (ed_var rfl) ?_ ⟨_, _, rfl, ?_⟩⟩
              · unfold leadsK
                simp
                omega
              · rw [putD_mid (leads_keys n1') (leads_keys n2), take_more hp]
                unfold leadsK
                simp
            · rintro G w ⟨x7, x8, rfl, rfl⟩
              have el : ((leadsK leads).map fun kv => keyD kv.1).length = leads.length := by unfold leadsK; simp
              rw [el, List.take_length, List.drop_length, List.append_nil]
              have nk : ¬ k ∈ (leads.map (fun p => (p.1, clearRow p.2 lead k))).map (·.1) := by
                rw [List.map_map]
                intro m
                obtain ⟨p, hp, e⟩ := List.mem_map.mp m
                have := iv.kb p hp
                have e : p.1 = k := e
                omega
              refine rm_dput (k := .inl (k : Int)) (d := intsD lead) (EvD.l (ed_var rfl)) (ed_var rfl) ?_ ⟨_, _, _, _, _, rfl, ?_⟩
              · unfold leadsK
                simp
                omega
              · rw [putD_new (leads_keys nk)]
                unfold leadsK
                simp
    · rintro G w ⟨x4, x5, x6, x7, x8, rfl, rfl⟩
      refine mx_ret (f := fun D => .tup [.ptr D, rowsD (ledTo js many).2]) (fun D => ed_tup (ea_cons (ed_var rfl) (ea_cons (ed_var ?_) ea_nil))) fun D => ⟨rfl, ?_⟩
      · rw [Int.toNat_natCast]
        rfl
      · rw [Int.toNat_natCast]
        rfl
end
end Ty
set_option Elab.async false
set_option linter.all false
set_option maxRecDepth 100000
set_option maxHeartbeats 4000000
/-! solve_rows, pushes_by, column_told. -/
namespace Ty
open PySem PySem.Spec PyProof.Rows L2
theorem step_none {H1 H H2 H' : Hp} {a : Addr} {o : HO} (s : Step H1 H H2 H') (h1 : H1 a = none) (h : H a = some o) : H2 a = none := by
  cases z : H2 a with
  | none => rfl
  | some u =>
    rcases s.fr a u z with q | q
    · rw [h1] at q; cases q
    · rw [h] at q; cases q
def foundOf (many : Nat) (l : Leads) : List Num := l.foldl (fun f p => f.set p.1 (ratioOf (p.2.getD many 0) (p.2.getD p.1 0))) (List.replicate many (0, 1))
theorem found_fold_len (many : Nat) : ∀ (l : Leads) (f : List Num), (l.foldl (fun f p => f.set p.1 (ratioOf (p.2.getD many 0) (p.2.getD p.1 0))) f).length = f.length
  | [], f => rfl
  | p :: l, f => by
    rw [List.foldl_cons, found_fold_len many l, List.length_set]
theorem found_len (many : Nat) (l : Leads) : (foundOf many l).length = many := by
  unfold foundOf
  rw [found_fold_len, List.length_replicate]
theorem rd_callX {S : Sys} {ι : Type} {Dm : List Dat → ι → Prop} {R : ι → Addr → Dat → Own → Prop} {E0 : XK} {ta : TA} {ds : List Dat} {g : TG} {u : TS} {G : Gam} {P : Out → Prop} (j : ι) (ha : EvA S ta G ds) (hd : Dm ds j)
    (h : ∀ σ H1 H H2 H' D o v d wf, Step H1 H H2 H' → EnvD S H2 σ G → H D = none → H2 D = none → H' D = some o → OwnAt S H2 o wf → Dt S H2 v d → R j D d wf → ∀ Ds, Fin S H1 H Ds P → g v σ H' (fun σ' H'' => u Ds σ' H'')) :
    RunD S (tSeq (tAsg (tCall (spX S Dm R) [] E0 ta) g) u) G P := fun σ H1 H Ds e E f =>
  ha σ H1 H e E _ fun H2 H' vs s dv => ⟨H2, ds, j, s.s2, by rw [List.append_nil]; exact dv, hd, fun H3 H'' D o v d wf s2 hD hn ho hw dv' r =>
    h σ H1 H H3 H'' D o v d wf (s.trans s2) (E.mono (s.s1.trans s2.s1)) (by
      cases z : H D with
      | none => rfl
      | some o =>
        rw [s.s3 _ _ z] at hD
        cases hD) hn ho hw dv' r Ds f⟩
section
variable {Pr : Program} {w : World} {K : PySem.W.Frag} {mg : Str → Option Value} {base : Heap}
structure SolveOk (rows : List (List Num)) (due : List Num) (many n : Nat) : Prop where
  r : ∀ r ∈ rows, r.length = many ∧ ∀ q ∈ r, Good n q
  d : ∀ q ∈ due, Good n q
  dl : due.length = rows.length
  n : n * (many + 2) ≤ 131071
  m : many ≤ 200
  l : rows.length ≤ 10
theorem jointRows_len (rows : List (List Num)) (due : List Num) : (jointRows rows due).length = rows.length := by
  unfold jointRows
  simp
theorem SolveOk.led {rows : List (List Num)} {due : List Num} {many n : Nat} (h : SolveOk rows due many n) : LedOk (jointRows rows due) many (many + 1 + rows.length) (n * (many + 2) + 1) := by
  have hj : ∀ r ∈ jointRows rows due, ∃ k, k < rows.length ∧ r = jointRow (rows.getD k []) (due.getD k (0, 1)) k rows.length := fun r hr => by
    unfold jointRows at hr
    obtain ⟨k, hk, rfl⟩ := List.mem_map.mp hr
    exact ⟨k, List.mem_range.mp hk, rfl⟩
  refine ⟨by omega, by have := h.n; omega, fun r hr => ?_, fun r hr => ?_, ?_, h.m, by omega, ?_⟩
  · obtain ⟨k, hk, rfl⟩ := hj r hr
    rw [joint_len, (h.r _ (getD_mem hk)).1]
  · obtain ⟨k, hk, rfl⟩ := hj r hr
    obtain ⟨e1, e2⟩ := h.r _ (getD_mem (a := []) hk)
    have hb := joint_bd (at_ := k) (many := rows.length) e2 (h.d _ (getD_mem (a := (0, 1)) (by rw [h.dl]; exact hk)))
    rw [e1] at hb
    rw [Nat.add_sub_cancel]
    unfold jointRow
    exact low_bd hb
  · rw [jointRows_len]; exact h.l
  · have := h.m
    have := h.l
    omega
def wordD (b : Bool) : Dat := .str (if b then "paper" else "solved")
def R_solve_rows (ds : List Dat) (d : Dat) : Prop := ∃ (rows : List (List Num)) (due : List Num) (many n : Nat), ds = [colsD rows, colD due, .int (many : Int)] ∧ SolveOk rows due many n ∧ d = .tup [wordD (solveRows rows due many).1, colD (solveRows rows due many).2]
theorem find_at {rest : List (List Int)} {many k : Nat} {r : List Int} (h : ∀ j, j < k → (rest.getD j []).getD many 0 = 0) (hk : rest[k]? = some r) (hr : r.getD many 0 ≠ 0) : (rest.find? fun r => decide (r.getD many 0 ≠ 0)) = some r := by
  rw [split_at hk, List.find?_append]
  have : (rest.take k).find? (fun r => decide (r.getD many 0 ≠ 0)) = none := by
    refine List.find?_eq_none.mpr fun x hx => ?_
    obtain ⟨j, hj⟩ := List.mem_iff_getElem?.mp hx
    have hjl := (List.getElem?_eq_some_iff.mp hj).1
    rw [List.length_take] at hjl
    have := h j (by omega)
    rw [List.getElem?_take_of_lt (by omega)] at hj
    rw [getD_of hj] at this
    simpa using this
  rw [this, List.find?_cons, decide_eq_true hr]
  rfl
theorem find_not {rest : List (List Int)} {many : Nat} (h : ∀ j, j < rest.length → (rest.getD j []).getD many 0 = 0) : (rest.find? fun r => decide (r.getD many 0 ≠ 0)) = none := by
  refine List.find?_eq_none.mpr fun x hx => ?_
  obtain ⟨j, hj⟩ := List.mem_iff_getElem?.mp hx
  have hjl := (List.getElem?_eq_some_iff.mp hj).1
  have := h j hjl
  rw [getD_of hj] at this
  simpa using this
theorem ok_solve_rows (T : Txt K mg) (B : Bas Pr base) : FnOk Pr w K mg base CX0 44 (He.ga K "solve_rows") (fdAt K (He.ga K "solve_rows")) ["rows", "due", "many"] (spF (sysOf K) R_solve_rows) := by
  refine pure_ok (S := sysOf K) (k := 43) T.F_solve_rows sc_solve_rows (fun ds d h => ?_) (fun cdv A outer s H E hr => ?_)
  · obtain ⟨rows, due, many, n, rfl, _⟩ := h
    rfl
  · refine ⟨_, (pss_cons (ps_asg (pe_call (ok_led_rows T B) (hr.mono (by decide)) rfl T.g_led_rows T.F_led_rows.kp T.b_led_rows .nil pass0 (pa_cons (pe_call (ok_joint_rows T B) (hr.mono (by decide)) rfl T.g_joint_rows T.F_joint_rows.kp T.b_joint_rows .nil pass0 (pa_cons (pv 0) (pa_cons (pv 1) pa_nil))) (pa_cons (pv 2) pa_nil))) (pg_tup rfl (pgs_cons (pg_name (i := 3) (sc_solve_rows).nd rfl (Or.inl rfl)) (pgs_cons (pg_name (i := 4) (sc_solve_rows).nd rfl (Or.inl rfl)) pgs_nil)))) (pss_cons (ps_for PassesOwn.never rfl (pi_list (pv 4)) (pg_name (i := 5) (sc_solve_rows).nd rfl (Or.inl rfl)) (pss_one (ps_if (pt_cmpR op_ne (pe_ix ix_list (pv 5) (pv 2) (fun _ _ => rfl)) pe_int (nomark _)) (pss_one (ps_ret (pe_tup (pa_cons pe_str (pa_cons (pe_call (ok_parts_of T B) (hr.mono (by decide)) rfl T.g_parts_of T.F_parts_of.kp T.b_parts_of .nil pass0 (pa_cons (pe_slice sl_list (pv 5) (po_some (pe_op op_add (pv 2) pe_int)) po_none) (pa_cons (pe_ix ix_list (pv 5) (pv 2) (fun _ _ => rfl)) pa_nil))) pa_nil))))) pss_nil))) (pss_cons (ps_setLc (i := 6) (own := [("k", 8)]) (g := gName 8) (tt := tYes) rfl (sc_solve_rows).nd rfl rfl (sw_true rfl rfl rfl (by decide +kernel)) (pi_range1 rfl T.n_range (pa_cons (pv 2) pa_nil)) (blkOk_by (N := ["rows", "due", "many", "leads", "rest", "joint", "found", "column", "k"]) (sc := defScope s_solve_rows) (by decide +kernel)) (fun _ _ _ _ _ => pg_name (i := 8) (sc_solve_rows).nd rfl (Or.inl rfl)) (fun _ _ _ _ _ => pts_nil) (fun _ _ _ _ _ => (pe_glob (v := .ref _) rfl T.g_NOUGHT_solving rfl))) (pss_cons (ps_lock (ps_for PassesOwn.never rfl (pi_items (pv 3)) (pg_tup rfl (pgs_cons (pg_name (i := 7) (sc_solve_rows).nd rfl (Or.inl rfl)) (pgs_cons (pg_name (i := 5) (sc_solve_rows).nd rfl (Or.inl rfl)) pgs_nil))) (pss_one (ps_asg (pe_call (ok_ratio_of T B) (hr.mono (by decide)) rfl T.g_ratio_of T.F_ratio_of.kp T.b_ratio_of .nil pass0 (pa_cons (pe_ix ix_list (pv 5) (pv 2) (fun _ _ => rfl)) (pa_cons (pe_ix ix_list (pv 5) (pv 7) (fun _ _ => rfl)) pa_nil))) (pg_sub (pv 6) (pv 7) set_list))))) (pss_one (ps_ret (pe_tup (pa_cons pe_str (pa_cons (pv 6) pa_nil))))))))), fun ds d h => ?_⟩
    obtain ⟨rows, due, many, n, rfl, ok, rfl⟩ := h
    have lok := ok.led
    have inv := led_inv lok.c1 lok.l lok.b many
    have inv : LInv (many + 1 + rows.length) (jointRows rows due).length (n * (many + 2) + 1) many (ledRows (jointRows rows due) many) := inv
    have hsol : solveRows rows due many = match (ledRows (jointRows rows due) many).2.find? fun r => decide (r.getD many 0 ≠ 0) with
      | some j => (true, (j.drop (many + 1)).map fun n => ratioOf n (j.getD many 0))
      | none => (false, foundOf many (ledRows (jointRows rows due) many).1) := rfl
    refine rd_callX (jointRows rows due, many) (ea_cons (ed_call (ea_cons (ed_var rfl) (ea_cons (ed_var rfl) ea_nil)) ⟨rows, due, n, many, rfl, ok.r, ok.d, ok.dl, by have := ok.n; omega, ok.m, by have := ok.l; omega, rfl⟩) (ea_cons (ed_var rfl) ea_nil)) ⟨_, _, rfl, lok⟩ ?_
    intro σ H1 H H3 H'' D o v d wf st2 E3' _ hn ho hw dv' r Ds f
    obtain ⟨rfl, rfl⟩ := r
    dsimp only at hw dv'
    revert inv hsol hw dv'
    generalize ledRows (jointRows rows due) many = st
    obtain ⟨leads, rest⟩ := st
    intro inv hsol dv' hw
    dsimp only at hw dv' hsol
    cases hw with
    | @K vs _ hd =>
      refine tg_tup (ds := [.ptr D, rowsD rest]) (tgs_cons tg_name (tgs_cons tg_name tgs_nil)) rfl v σ H3 H'' st2.s2 E3' dv' _ fun σ3 E3 => ?_
      -- the rest rows
      refine (rd_for_list (P := fun o => (∃ x5, o = .nx [some (colsD rows), some (colD due), some (.int (many : Int)), some (.ptr D), some (rowsD rest), x5, none, none, none] ∧ ∀ j, j < rest.length → (rest.getD j []).getD many 0 = 0) ∨ o = .rt (.tup [wordD (solveRows rows due many).1, colD (solveRows rows due many).2])) (ds := rest.map intsD) (ed_var rfl)
        (fun k G => ∃ x5, G = [some (colsD rows), some (colD due), some (.int (many : Int)), some (.ptr D), some (rowsD rest), x5, none, none, none] ∧ ∀ j, j < k → (rest.getD j []).getD many 0 = 0) ⟨_, rfl, fun j hj => by omega⟩ ?_ ?_ : RunD _ _ _ _) σ3 H3 H'' _ st2.s2 E3 ⟨?_, fun d p H4 H4' v s4 dv4 => ?_, fun G p => ?_, fun G p => ?_⟩
      · rintro k d G hd ⟨x5, rfl, hz⟩
        obtain ⟨r, hr, rfl⟩ := map_get hd
        have hrm := get_mem hr
        have hl := inv.l2 r hrm
        refine ⟨_, tg_name, rd_if (et_test (ed_op (ed_op (ed_var rfl) (ed_var rfl) (rv_ixL (int_at (k := many) (by rw [hl]; omega) rfl))) ed_int rv_neI)) (fun h => ?_) (fun h => rd_next ⟨_, rfl, fun j hj => ?_⟩)⟩
        · have hne : r.getD many 0 ≠ 0 := of_decide_eq_true h
          have hsr := find_at hz hr hne
          rw [hsr] at hsol
          have hll := ok.l
          refine rd_ret (ed_tup (ea_cons ed_str (ea_cons (ed_call (ea_cons ((ed_sl (ds := r.map .int) (ed_var rfl) (eo_some (n := ((many + 1 : Nat) : Int)) (ed_op (ed_var rfl) ed_int rv_add)) eo_none).to ?_) (ea_cons (ed_op (ed_var rfl) (ed_var rfl) (rv_ixL (int_at (k := many) (by rw [hl]; omega) rfl))) ea_nil)) ⟨r.drop (many + 1), r.getD many 0, rfl, hne, ?_, rfl⟩) ea_nil))) (.inr ?_)
          · rw [cut_from, ← List.map_drop]
            rfl
          · rw [List.length_drop, hl]
            omega
          · rw [hsol]
            rfl
        · by_cases q : j = k
          · subst q
            rw [getD_of hr]
            have := of_decide_eq_false h
            simpa using this
          · exact hz j (by omega)
      · rintro G ⟨x5, rfl, hz⟩
        refine .inl ⟨_, rfl, ?_⟩
        rw [List.length_map] at hz
        exact hz
      · rintro G (⟨x5, p, hz⟩ | p)
        · injection p with p
          subst p
          intro σ4 H4 H4' s4 E4
          rw [find_not hz] at hsol
          have hD4 := s4.s3 _ _ ho
          have hn4 := step_none s4 hn ho
          have hd4 := hd.mono s4.s1
          have hll := ok.m
          show tSeq (tAsg (tLc (iRng1 (tCons (tVar 2) tNil)) (gName 8) tYes (tC (.ref (He.ga K "NOUGHT_solving"))) [8]) (gName 6)) _ Ds σ4 H4'
          have nw : NewO (sysOf K) (tLc (iRng1 (tCons (tVar 2) tNil)) (gName 8) tYes (tC (.ref (He.ga K "NOUGHT_solving"))) [8]) [some (colsD rows), some (colD due), some (.int (many : Int)), some (.ptr D), some (rowsD rest), x5, none, none, none] (.L ((List.replicate many ((0, 1) : Num)).map num)) := by
            refine new_lc_range (n := (many : Int)) (rs := (List.replicate many ((0, 1) : Num)).map num) (ed_var rfl) (by omega) (by simp) (by omega) fun k r hr => ?_
            obtain ⟨q, hq, rfl⟩ := map_get hr
            obtain rfl : q = (0, 1) := List.eq_of_mem_replicate (get_mem hq)
            exact ed_NS T
          unfold tSeq tAsg
          refine nw σ4 H4 H4' s4.s2 E4 _ fun H5 H5' D2 o2 s5 hD5 hn5 ho5 hw5 => ?_
          · have hDD : D ≠ D2 := fun z => by
              rw [← z, hD4] at hD5
              cases hD5
            have E5 : EnvD (sysOf K) H5 (σ4.set 6 (some (.ref D2))) _ := (E4.mono s5.s1).setN (i := 6)
            have A5 : AtO (sysOf K) 6 (σ4.set 6 (some (.ref D2))) H5 H5' D2 (.L ((List.replicate many ((0, 1) : Num)).map num)) := ⟨List.getElem?_set_self (by rw [E4.len]; exact Nat.le_of_ble_eq_true rfl), hn5, o2, ho5, hw5⟩
            have hst : Step H1 H H5 H5' := ((st2.trans s4).trans s5)
            have hH : H D2 = none := by
              cases z : H D2 with
              | none => rfl
              | some o =>
                have := s4.s3 _ _ (st2.s3 _ _ z)
                rw [this] at hD5
                cases hD5
            refine items_rm (P := ThenMO (sysOf K) 6 (tRet (tTup (tCons (tC (.str "solved")) (tCons (tVar 6) tNil)))) _) (kvs := leadsK leads) s5.s2 E5 A5 hDD (s5.s3 _ _ hD4) (step_none s5 hn4 hD4) (hd4.mono s5.s1) ⟨fun G w r σ' H6 H6' m E6 A6 => r σ' H1 H H6 H6' Ds D2 (step_ownM hst m hH) hH E6 A6 f, fun d p H6 H6' v m dv => f.rt d p H6 H6' v (step_ownM hst m hH) dv, fun _ _ p => p.elim, fun _ _ p => p.elim⟩ ?_
              (fun k G w => ∃ x5 x7 x8, G = [some (colsD rows), some (colD due), some (.int (many : Int)), some (.ptr D), some (rowsD rest), x5, none, x7, x8] ∧ w = .L ((foundOf many (leads.take k)).map num)) ⟨_, _, _, rfl, rfl⟩ ?_ ?_
            · intro od Q q
              obtain ⟨v3, h1, h2⟩ := E4.at_ 3 (.ptr D) rfl
              cases h2
              exact ⟨_, by rw [List.getElem?_set_ne (by decide)]; exact h1, q⟩
            · rintro k ky d G w hkv ⟨x5, x7, x8, rfl, rfl⟩
              unfold leadsK at hkv
              obtain ⟨p, hp, he⟩ := map_get hkv
              injection he with he1 he2
              subst he1 he2
              have hpm := get_mem hp
              have hl := inv.l1 p hpm
              have hkb := inv.kb p hpm
              refine ⟨_, tm_tup (ds := [.int (p.1 : Int), intsD p.2]) (tms_cons (tm_name (by decide)) (tms_cons (tm_name (by decide)) tms_nil)), ?_⟩
              refine rm_setL (j := p.1) (EvD.l (ed_call (ea_cons (ed_op (ed_var rfl) (ed_var rfl) (rv_ixL (int_at (k := many) (by rw [hl]; omega) rfl))) (ea_cons (ed_op (ed_var rfl) (ed_var rfl) (rv_ixL (int_at (k := p.1) (by rw [hl]; omega) rfl))) ea_nil)) ⟨_, _, rfl, inv.pv p hpm, rfl⟩)) (ed_var rfl) ?_ ⟨_, _, _, rfl, ?_⟩
              · rw [List.length_map, found_len]
                unfold ixN
                rw [if_pos (by omega), if_pos (by omega)]
                simp
              · unfold foundOf
                rw [take_more hp, List.foldl_append, List.foldl_cons, List.foldl_nil, List.map_set]
            · rintro G w ⟨x5, x7, x8, rfl, rfl⟩
              have el : (leadsK leads).length = leads.length := by unfold leadsK; simp
              rw [el, List.take_length]
              refine mo_done (rd_ret (ed_tup (ea_cons ed_str (ea_cons (ed_var rfl) ea_nil))) (.inl ?_))
              rw [hsol]
              rfl
        · cases p
      · rcases p with ⟨x5, p, _⟩ | p
        · cases p
        · cases p
          exact f.rt _ (.inl rfl) H4 H4' v (st2.trans s4) dv4
      · rcases p with ⟨x5, p, _⟩ | p <;> cases p
      · rcases p with ⟨x5, p, _⟩ | p <;> cases p
end
end Ty
set_option Elab.async false
set_option linter.all false
set_option maxRecDepth 100000
set_option maxHeartbeats 4000000
/-! pushes_by, column_told: answers that the law will change. -/
namespace Ty
open PySem PySem.Spec PyProof.Rows L2
/-- a promise told by the data of the arguments and the heaps -/
def spZ {ι : Type} (S : Sys) (Pre : ι → List Dat → Prop) (Post : ι → Hp → Hp → V → Hp → Prop) : Sp := fun vs H Q _ => ∃ H1 ds j, Same H1 H ∧ DtA S H1 vs ds ∧ Pre j ds ∧ ∀ v H', Post j H1 H v H' → Q v H'
section
variable {S : Sys} {Pr : Program} {ww : World} {mg : Str → Option Value} {base : Heap} {x qual : Str} {params : Arguments} {body : List Stmt} {scope : Scope} {dvs : List V} {kws : List (Str × V)} {f : Addr} {fd : FuncData}
theorem z_ok {ι : Type} {CX : CXT} {N ps : List Str} {k : Nat} {Pre : ι → List Dat → Prop} {Post : ι → Hp → Hp → V → Hp → Prop} (F : FunD S.K x qual params body scope dvs kws f fd) (sc : FnScope N ps scope) (len : ∀ j ds, Pre j ds → ds.length = ps.length)
    (hbody : ∀ (cdv : Value) (A : Around) (outer : List Env) (s : Shared) (H : Hp) (E : XK), Room k (A.deeper (envOfC qual scope s.heap.objs.size f cdv)) →
      ∃ t, PSs (cxOf CX Pr ww S.K mg base N qual scope f cdv A outer s H E).nox body t ∧ ∀ j ds, Pre j ds → ∀ σ H1 H (Ds : Ends), Same H1 H → EnvD S H1 σ (start0 N ds) → (∀ v H', Post j H1 H v H' → Ds.rt v H') → (∀ σ' H', Post j H1 H .non H' → Ds.nx σ' H') → t Ds σ H) : FnOk Pr ww S.K mg base CX (k + 1) f fd ps (spZ S Pre Post) := by
  refine FunD.ok F sc (fun vs H Q E h => ?_) (fun cdv A outer s H vs Q E hr h => ?_)
  · obtain ⟨H1, ds, j, _, dv, r, _⟩ := h
    rw [dv.length]
    exact len j ds r
  · obtain ⟨H1, ds, j, e, dv, r, q⟩ := h
    obtain ⟨t, ht, hR⟩ := hbody cdv A outer s H E hr
    exact ⟨t, ht.nox, hR j ds r _ H1 H _ e (env_start dv) q fun _ H' p => q _ H' p⟩
end
theorem raw_set {te : TE} {i : Nat} {u : TS} {Ds : Ends} {σ : L2.St} {H : Hp} (h : te σ H fun v H' => u Ds (σ.set i (some v)) H') : tSeq (tAsg te (gName i)) u Ds σ H := h
theorem raw_set1 {te : TE} {i : Nat} {Ds : Ends} {σ : L2.St} {H : Hp} (h : te σ H fun v H' => Ds.nx (σ.set i (some v)) H') : tAsg te (gName i) Ds σ H := h
theorem raw_seq {t u : TS} {Ds : Ends} {σ : L2.St} {H : Hp} (h : t { Ds with nx := u Ds } σ H) : tSeq t u Ds σ H := h
theorem raw_for {wi : TI} {g : TG} {t : TS} {Ds : Ends} {σ : L2.St} {H : Hp} (h : wi σ H fun J H1 => ∃ W : Nat → Nat → L2.St → Hp → Prop, (∃ m, W 0 m σ H1) ∧ ∀ i m σ H, W i m σ H →
  (J.stop i H ∧ Ds.nx σ H) ∨ (J.go i H ∧ ∃ N : L2.St → Hp → Prop, (∀ σ' H', N σ' H' → ∃ m', m' < m ∧ W (i + 1) m' σ' H') ∧ ∀ x H', J.yld i H x H' → g x σ H' fun σ2 H2 => t { Ds with nx := N, ct := N, bk := Ds.nx } σ2 H2)) : tFor wi g t Ds σ H := h
theorem raw_list {S : Sys} {te : TE} {g : TG} {t : TS} {Ds : Ends} {σ : L2.St} {H : Hp} (h : te σ H fun x H1 => ∃ a, x = .ref a ∧ (∃ xs, SqL S.K H1 a xs) ∧ ∃ W : Nat → Nat → L2.St → Hp → Prop, (∃ m, W 0 m σ H1) ∧ ∀ i m σ H, W i m σ H →
  ((Itl S.K a).stop i H ∧ Ds.nx σ H) ∨ ((Itl S.K a).go i H ∧ ∃ N : L2.St → Hp → Prop, (∀ σ' H', N σ' H' → ∃ m', m' < m ∧ W (i + 1) m' σ' H') ∧ ∀ x H', (Itl S.K a).yld i H x H' → g x σ H' fun σ2 H2 => t { Ds with nx := N, ct := N, bk := Ds.nx } σ2 H2)) : tFor (iList S.K te) g t Ds σ H := h
theorem none_of {H H' : Hp} {a : Addr} (e : Same H H') (h : H' a = none) : H a = none := e.free h
/-- a new dict of new lists -/
def zipK (kls : List (Str × List Dat)) (ls : List Addr) : List (Key × V) := List.zipWith (fun kd a => ((Sum.inr kd.1 : Key), V.ref a)) kls ls
structure Pushed (S : Sys) (H0 H2 H' : Hp) (D : Addr) (ls : List Addr) (kls : List (Str × List Dat)) : Prop where
  nd : (D :: ls).Nodup
  fr : ∀ a ∈ D :: ls, H0 a = none ∧ H2 a = none
  dk : H' D = some (.dK (zipK kls ls))
  len : ls.length = kls.length
  it : ∀ (i : Nat) (a : Addr) (kd : Str × List Dat), ls[i]? = some a → kls[i]? = some kd → ∃ vs, H' a = some (.lst vs) ∧ DtA S H2 vs kd.2
theorem zipK_keys {kls : List (Str × List Dat)} {ls : List Addr} (h : ls.length = kls.length) : (zipK kls ls).map (·.1) = kls.map fun kd => (Sum.inr kd.1 : Key) := by
  unfold zipK
  induction kls generalizing ls with
  | nil => simp
  | cons k kls ih =>
    cases ls with
    | nil => simp at h
    | cons a ls => simp [ih (ls := ls) (by simpa using h)]
theorem Pushed.has {S : Sys} {H0 H2 H' : Hp} {D : Addr} {ls : List Addr} {kls : List (Str × List Dat)} (p : Pushed S H0 H2 H' D ls kls) : ∀ a ∈ D :: ls, ∃ o, H' a = some o := by
  intro a ha
  rcases List.mem_cons.mp ha with rfl | ha
  · exact ⟨_, p.dk⟩
  · obtain ⟨i, hi⟩ := List.mem_iff_getElem?.mp ha
    have hl := (List.getElem?_eq_some_iff.mp hi).1
    rw [p.len] at hl
    obtain ⟨vs, h, _⟩ := p.it i a _ hi (List.getElem?_eq_getElem hl)
    exact ⟨_, h⟩
theorem Pushed.step {S : Sys} {H0 H2 H' H3 H'' : Hp} {D : Addr} {ls : List Addr} {kls : List (Str × List Dat)} (p : Pushed S H0 H2 H' D ls kls) (s : Step H2 H' H3 H'') : Pushed S H0 H3 H'' D ls kls :=
  ⟨p.nd, fun a ha => ⟨(p.fr a ha).1, by
    obtain ⟨o, ho⟩ := p.has a ha
    exact step_none s (p.fr a ha).2 ho⟩, s.s3 _ _ p.dk, p.len, fun i a kd h1 h2 => by
    obtain ⟨vs, h3, h4⟩ := p.it i a kd h1 h2
    exact ⟨vs, s.s3 _ _ h3, h4.mono s.s1⟩⟩
section
variable {S : Sys} {te : TE} {G : Gam} {ds : List Dat}
theorem new_listof (h : EvD S te G (.lst ds)) : NewO S (tCB (fun xs H Q => ∃ p ys, xs = [V.ref p] ∧ (SqL S.K H p ys ∨ SqT S.K H p ys) ∧ ∀ l, H l = none → Q (.ref l) (upd H l (.lst ys))) (tCons te tNil)) G (.L ds) := fun σ H1 H e E Q q => h σ H1 H e E _ fun H2 H' v s dv => by
  cases dv with
  | lst ha hd => exact ⟨_, _, rfl, .inl (SqL.of (s.s2 _ _ ha)), fun l hl => q H2 _ l _ ⟨s.s1, same_mut s.s2 (s.s2.free hl), s.s3.trans (same_new hl), s.fr⟩ (s.s3.free hl) (s.s2.free hl) upd_same (.L hd)⟩
end
def offW (ps : List Pin) (i : Nat) : Nat := ((ps.take i).map fun p => p.ways.length).sum
def pushesOf (F : Frm) (ns : List Num) : List (Str × List Num) := (List.range F.pins.length).map fun i => ((F.pins.getD i nilPin).name, (ns.drop (offW F.pins i)).take (F.pins.getD i nilPin).ways.length)
def kdD (l : List (Str × List Num)) : List (Str × List Dat) := l.map fun p => (p.1, p.2.map num)
theorem offW_succ {ps : List Pin} {i : Nat} {p : Pin} (h : ps[i]? = some p) : offW ps (i + 1) = offW ps i + p.ways.length := by
  unfold offW
  rw [take_more h, List.map_append, List.sum_append]
  simp
theorem zip_snoc {kls : List (Str × List Dat)} {ls : List Addr} {k : Str} {d : List Dat} {a : Addr} (h : ls.length = kls.length) : zipK kls ls ++ [((Sum.inr k : Key), V.ref a)] = zipK (kls ++ [(k, d)]) (ls ++ [a]) := by
  unfold zipK
  rw [List.zipWith_append h.symm]
  rfl
section
variable {Pr : Program} {w : World} {K : PySem.W.Frag} {mg : Str → Option Value} {base : Heap}
def Pre_pushes_by (j : Frm × List Num) (ds : List Dat) : Prop := ds = [.frm j.1, colD j.2] ∧ FrmOk j.1
def Post_pushes_by (K : PySem.W.Frag) (j : Frm × List Num) (H1 H : Hp) (v : V) (H' : Hp) : Prop := ∃ H2 D ls, v = .ref D ∧ Step H1 H H2 H' ∧ Pushed (sysOf K) H H2 H' D ls (kdD (pushesOf j.1 j.2))
theorem ok_pushes_by (T : Txt K mg) (B : Bas Pr base) : FnOk Pr w K mg base CX0 41 (He.ga K "pushes_by") (fdAt K (He.ga K "pushes_by")) ["frame", "numbers"] (spZ (sysOf K) Pre_pushes_by (Post_pushes_by K)) := by
  refine z_ok (S := sysOf K) (k := 40) T.F_pushes_by sc_pushes_by (fun j ds h => ?_) (fun cdv A outer s H E hr => ?_)
  · obtain ⟨rfl, _⟩ := h
    rfl
  · refine ⟨_, (pss_cons (ps_set (i := 2) (sc_pushes_by).nd rfl (Or.inl rfl) pe_dnewK) (pss_cons (ps_set (i := 3) (sc_pushes_by).nd rfl (Or.inl rfl) pe_int) (pss_cons (ps_for PassesOwn.never rfl (pi_list (pe_meth0 (pv 0) T.cl_Frame T.m_Frame_pins (ok_Frame_pins T B) (hr.mono (by decide)) T.b_Frame_pins .nil pass0)) (pg_name (i := 4) (sc_pushes_by).nd rfl (Or.inl rfl)) (pss_cons (ps_set (i := 5) (sc_pushes_by).nd rfl (Or.inl rfl) (pe_callB call_len_seq (by rfl) T.n_len (by decide +kernel) (pa_cons (pe_meth (pv 0) T.cl_Frame T.m_Frame_ways (ok_Frame_ways T B) (hr.mono (by decide)) T.b_Frame_ways .nil pass0 (pa_cons (pv 4) pa_nil)) pa_nil))) (pss_cons (ps_dput (hu_of hr) (pv 2) (pv 4) (pe_callTy call_list_of (by rfl) T.n_list (by decide +kernel) (pa_cons (pe_slice sl_list (pv 1) (po_some (pv 3)) (po_some (pe_op op_add (pv 3) (pv 5)))) pa_nil)) rfl) (pss_one (ps_set (i := 3) (sc_pushes_by).nd rfl (Or.inl rfl) (pe_op op_add (pv 3) (pv 5))))))) (pss_one (ps_ret (pv 2)))))), fun ⟨F, ns⟩ ds h => ?_⟩
    obtain ⟨rfl, ok⟩ := h
    intro σ H1 H Ds e E q _
    dsimp only at E q
    refine raw_set (new_K (G := start0 ["frame", "numbers", "pushes", "at", "pin", "many"] [Dat.frm F, colD ns]) σ H1 H e E _ fun H2 H' D o s2 hD hn ho hw => ?_)
    have E2 : EnvD (sysOf K) H2 (σ.set 2 (some (.ref D))) [some (.frm F), some (colD ns), none, none, none, none] := (E.mono s2.s1).setN (i := 2)
    refine raw_set (ed_int (i := 0) (G := [some (.frm F), some (colD ns), none, none, none, none]) _ H2 H' s2.s2 E2 _ fun H3 H3' v3 s3 d3 => ?_)
    have E3 : EnvD (sysOf K) H3 _ [some (.frm F), some (colD ns), none, some (.int 0), none, none] := (E2.mono s3.s1).set (i := 3) d3
    have st3 := s2.trans s3
    have ho3 := s3.s3 _ _ ho
    have hn3 := step_none s3 hn ho
    have sl3 : ((σ.set 2 (some (.ref D))).set 3 (some v3))[2]? = some (some (.ref D)) := by
      rw [List.getElem?_set_ne (by decide)]
      exact List.getElem?_set_self (by rw [E.len]; exact Nat.le_of_ble_eq_true rfl)
    have hp0 : ∃ ls, Pushed (sysOf K) H H3 H3' D ls (kdD ((pushesOf F ns).take 0)) := by
      cases hw with
      | @K vs _ hd =>
        cases hd
        exact ⟨[], List.nodup_cons.mpr ⟨by simp, List.nodup_nil⟩, fun a ha => by rw [List.mem_singleton.mp ha]; exact ⟨hD, hn3⟩, ho3, rfl, fun i a kd h1 h2 => by simp at h1⟩
    refine raw_seq (raw_list (S := sysOf K) (ed_meth (G := [some (.frm F), some (colD ns), none, some (.int 0), none, none]) (te := tVar 0) (E0 := E0) (m := "pins") (R := R_Frame_pins) (ed_var rfl) ea_nil ⟨F, rfl, rfl⟩ (by decide +kernel) (by decide +kernel) (by decide +kernel) _ H3 H3' st3.s2 E3 _ fun H4 H4' v4 s4 d4 => ?_))
    have st4 := st3.trans s4
    cases d4 with
    | @lst a xs _ ha hA =>
      refine ⟨a, rfl, ⟨xs, SqL.of (s4.s2 _ _ ha)⟩, for_list (K := (sysOf K).K) (a := a) (xs := xs) (fun i σ5 H5 => ∃ H6 x4 x5 ls, Step H1 H H6 H5 ∧ H6 a = some (.lst xs) ∧ DtA (sysOf K) H6 xs (F.pins.map fun p => .str p.name) ∧ EnvD (sysOf K) H6 σ5 [some (.frm F), some (colD ns), none, some (.int (offW F.pins i : Int)), x4, x5] ∧ σ5[2]? = some (some (.ref D)) ∧ Pushed (sysOf K) H H6 H5 D ls (kdD ((pushesOf F ns).take i))) ?_ (fun i σ5 H5 _ ⟨H6, x4, x5, ls, st, h6, _⟩ => SqL.of (st.s2 _ _ h6)) ?_ ?_⟩
      · obtain ⟨ls, hp⟩ := hp0
        exact ⟨H4, none, none, ls, st4, ha, hA, E3.mono s4.s1, sl3, hp.step s4⟩
      · rintro i x σ5 H5 hx ⟨H6, x4, x5, ls, st, h6, hA6, E6, sl, hp⟩
        obtain ⟨d, hd, hv⟩ := hA6.getV hx
        obtain ⟨p, hpi, rfl⟩ := map_get hd
        cases hv
        have hpm := get_mem hpi
        have hpn : F.pins.getD i nilPin = p := getD_of hpi
        have E7 : EnvD (sysOf K) H6 (σ5.set 4 (some (.str p.name))) [some (.frm F), some (colD ns), none, some (.int (offW F.pins i : Int)), some (.str p.name), x5] := E6.set (i := 4) (.str p.name)
        have pg : (pushesOf F ns)[i]? = some (p.name, (ns.drop (offW F.pins i)).take p.ways.length) := by
          have hil := (List.getElem?_eq_some_iff.mp hpi).1
          unfold pushesOf
          rw [List.getElem?_map, List.getElem?_range hil]
          show some ((F.pins.getD i nilPin).name, _) = _
          rw [hpn]
        refine raw_set (ed_cb (ea_cons (ed_meth (G := [some (.frm F), some (colD ns), none, some (.int (offW F.pins i : Int)), some (.str p.name), x5]) (te := tVar 0) (E0 := E0) (m := "ways") (R := R_Frame_ways) (ed_var rfl) (ea_cons (ed_var rfl) ea_nil) ⟨F, p.name, p, rfl, pinAt_of ok.pn hpm, rfl⟩) ea_nil) rc_lenL _ H6 H5 st.s2 E7 _ fun H8 H8' v8 s8 d8 => ?_)
        have E8 := (E7.mono s8.s1).set (i := 5) d8
        have d8' : ((p.ways.map way).length : Int) = (p.ways.length : Int) := by rw [List.length_map]
        have st8 := st.trans s8
        refine raw_seq (new_listof ((ed_sl (ds := ns.map num) (te := tVar 1) (G := [some (.frm F), some (colD ns), none, some (.int (offW F.pins i : Int)), some (.str p.name), some (.int (p.ways.length : Int))]) (ed_var rfl) (eo_some (te := tVar 3) (n := (offW F.pins i : Int)) (ed_var rfl)) (eo_some (n := ((offW F.pins i + p.ways.length : Nat) : Int)) (ed_op (ta := tVar 3) (tb := tVar 5) (ed_var rfl) (ed_var rfl) rv_add)))) _ H8 H8' st8.s2 (by rw [d8'] at E8; exact E8) _ fun H9 H9' L oL s9 hL hLn hLo hLw => ?_)
        have st9 := st8.trans s9
        have hp9 := (hp.step s8).step s9
        have hpL := hp.step s8
        have hsl : ((σ5.set 4 (some (.str p.name))).set 5 (some v8))[2]? = some (some (.ref D)) := by
          rw [List.getElem?_set_ne (by decide), List.getElem?_set_ne (by decide)]
          exact sl
        refine ⟨_, hsl, ?_⟩
        obtain ⟨v, hv1, hv2⟩ := (E8.mono s9.s1).at_ 4 (.str p.name) rfl
        cases hv2
        refine ⟨_, hv1, D, _, rfl, DPut.k (k := .inr p.name) hp9.dk ?_, ?_⟩
        · have : (zipK (kdD ((pushesOf F ns).take i)) ls).length ≤ 24 := by
            unfold zipK kdD pushesOf
            simp
            have : F.pins.length ≤ 24 := ok.pl
            omega
          rw [sizeLine_eq]
          omega
        have notin : ∀ b ∈ D :: ls, b ≠ L := fun b hb z => by
          obtain ⟨o, ho⟩ := hpL.has b hb
          rw [z, hL] at ho
          cases ho
        have HL : H L = none := st8.s3.free hL
        have hnk : ¬ (Sum.inr p.name : Key) ∈ (zipK (kdD ((pushesOf F ns).take i)) ls).map (·.1) := by
          rw [zipK_keys hp9.len]
          intro m
          unfold kdD at m
          rw [List.map_map] at m
          obtain ⟨kd, hkd, he⟩ := List.mem_map.mp m
          obtain ⟨j, hj⟩ := List.mem_iff_getElem?.mp hkd
          have hjl := (List.getElem?_eq_some_iff.mp hj).1
          rw [List.length_take] at hjl
          rw [List.getElem?_take_of_lt (by omega)] at hj
          unfold pushesOf at hj
          obtain ⟨j', hj', hkd'⟩ := map_get hj
          have hj2 := (List.getElem?_eq_some_iff.mp hj').1
          rw [List.length_range] at hj2
          rw [List.getElem?_range hj2] at hj'
          cases hj'
          rw [hkd'] at he
          have he : (F.pins.getD j nilPin).name = p.name := by
            have : (Sum.inr (F.pins.getD j nilPin).name : Key) = Sum.inr p.name := he
            simpa using this
          have hil := (List.getElem?_eq_some_iff.mp hpi)
          have n1 : (F.pins.map Pin.name)[j]? = some p.name := by
            rw [List.getElem?_map, List.getElem?_eq_getElem hj2]
            rw [List.getD_eq_getElem?_getD, List.getElem?_eq_getElem hj2] at he
            exact congrArg some he
          have n2 : (F.pins.map Pin.name)[i]? = some p.name := by
            rw [List.getElem?_map, hpi]
            rfl
          have := (List.getElem?_inj (by rw [List.length_map]; exact hj2) ok.pn).mp (n1.trans n2.symm)
          omega
        have epk : putK (zipK (kdD ((pushesOf F ns).take i)) ls) (Sum.inr p.name) (.ref L) = zipK (kdD ((pushesOf F ns).take (i + 1))) (ls ++ [L]) := by
          have e1 : putK (zipK (kdD ((pushesOf F ns).take i)) ls) (Sum.inr p.name) (.ref L) = putD (zipK (kdD ((pushesOf F ns).take i)) ls) (Sum.inr p.name) (.ref L) := rfl
          rw [e1, putD_new hnk, zip_snoc (d := ((ns.drop (offW F.pins i)).take p.ways.length).map num) hp9.len, take_more pg]
          unfold kdD
          rw [List.map_append]
          rfl
        rw [epk]
        have sm : Same H9 (upd H9' D (.dK (zipK (kdD ((pushesOf F ns).take (i + 1))) (ls ++ [L])))) := same_mut st9.s2 (hp9.fr D List.mem_cons_self).2
        have smH : Same H (upd H9' D (.dK (zipK (kdD ((pushesOf F ns).take (i + 1))) (ls ++ [L])))) := same_mut st9.s3 (hp9.fr D List.mem_cons_self).1
        have stn : Step H1 H H9 (upd H9' D (.dK (zipK (kdD ((pushesOf F ns).take (i + 1))) (ls ++ [L])))) := ⟨st9.s1, sm, smH, st9.fr⟩
        have hpn' : Pushed (sysOf K) H H9 (upd H9' D (.dK (zipK (kdD ((pushesOf F ns).take (i + 1))) (ls ++ [L])))) D (ls ++ [L]) (kdD ((pushesOf F ns).take (i + 1))) := by
          refine ⟨?_, fun a ha => ?_, upd_same, ?_, fun j a kd h1 h2 => ?_⟩
          · rw [← List.cons_append]
            refine List.nodup_append.mpr ⟨hp9.nd, List.nodup_cons.mpr ⟨by simp, List.nodup_nil⟩, fun b hb c hc => ?_⟩
            rw [List.mem_singleton.mp hc]
            exact notin b hb
          · rw [← List.cons_append] at ha
            rcases List.mem_append.mp ha with ha | ha
            · exact hp9.fr a ha
            · rw [List.mem_singleton.mp ha]
              exact ⟨HL, hLn⟩
          · rw [List.length_append, hp9.len, take_more pg]
            unfold kdD
            simp
          · rw [take_more pg] at h2
            unfold kdD at h2
            rw [List.map_append] at h2
            by_cases hj : j < ls.length
            · rw [List.getElem?_append_left hj] at h1
              rw [List.getElem?_append_left (by have := hp9.len; unfold kdD at this; omega)] at h2
              obtain ⟨vs, h3, h4⟩ := hp9.it j a kd h1 h2
              refine ⟨vs, ?_, h4⟩
              rw [upd_ne (fun z => by
                have hm := get_mem h1
                rw [z] at hm
                exact (List.nodup_cons.mp hp9.nd).1 hm)]
              exact h3
            · have hl9 := hp9.len
              unfold kdD at hl9
              have hj2 : j = ls.length := by
                have := (List.getElem?_eq_some_iff.mp h1).1
                rw [List.length_append, List.length_singleton] at this
                omega
              subst hj2
              rw [List.getElem?_append_right (Nat.le_refl _), Nat.sub_self] at h1
              rw [List.getElem?_append_right (by omega), hl9, Nat.sub_self] at h2
              have h1 : L = a := Option.some.inj h1
              have h2 := Option.some.inj h2
              subst h1
              subst h2
              cases hLw with
              | @L vs _ hd =>
                refine ⟨vs, ?_, ?_⟩
                · rw [upd_ne (fun z => notin D List.mem_cons_self z.symm)]
                  exact hLo
                · rw [cut_mid, ← List.map_drop, ← List.map_take] at hd
                  exact hd
        refine raw_set1 (ed_op (G := [some (.frm F), some (colD ns), none, some (.int (offW F.pins i : Int)), some (.str p.name), some (.int (p.ways.length : Int))]) (ta := tVar 3) (tb := tVar 5) (ed_var rfl) (ed_var rfl) rv_add _ H9 _ stn.s2 (by rw [d8'] at E8; exact E8.mono s9.s1) _ fun H10 H10' v10 s10 d10 => ?_)
        have E10 := ((E8.mono s9.s1).mono s10.s1).set (i := 3) d10
        have eo : ((offW F.pins i : Int) + (p.ways.length : Int)) = (offW F.pins (i + 1) : Int) := by
          rw [offW_succ hpi]
          omega
        rw [eo] at E10
        refine ⟨H10, some (.str p.name), _, _, stn.trans s10, s10.s1 _ _ (s9.s1 _ _ (s8.s1 _ _ h6)), hA6.mono (s8.s1.trans (s9.s1.trans s10.s1)), E10, ?_, hpn'.step s10⟩
        rw [List.getElem?_set_ne (by decide)]
        exact hsl
      · rintro σ5 H5 ⟨H6, x4, x5, ls, st, h6, hA6, E6, sl, hp⟩
        rw [hA.length, List.length_map] at hp
        have el : (pushesOf F ns).length = F.pins.length := by unfold pushesOf; simp
        rw [List.take_of_length_le (by omega)] at hp
        exact ⟨_, sl, q _ _ ⟨H6, D, ls, rfl, st, hp⟩⟩
end
end Ty
set_option Elab.async false
set_option linter.all false
set_option maxRecDepth 100000
set_option maxHeartbeats 4000000
/-! column_told. -/
namespace Ty
open PySem PySem.Spec PyProof.Rows L2
def Stable (R : Hp → Hp → V → Hp → Prop) : Prop := ∀ H1 H Ha Hb v H', Step H1 H Ha Hb → R Ha Hb v H' → R H1 H v H'
def RunZ (S : Sys) (ts : TS) (G : Gam) (R : Hp → Hp → V → Hp → Prop) : Prop := ∀ σ H1 H (Ds : Ends), Same H1 H → EnvD S H1 σ G → (∀ v H', R H1 H v H' → Ds.rt v H') → ts Ds σ H
def ThenZ (S : Sys) (u : TS) (R : Hp → Hp → V → Hp → Prop) : Out → Prop
  | .nx G => RunZ S u G R
  | .rt d => ∀ H1 H H2 H' v, Step H1 H H2 H' → Dt S H2 v d → R H1 H v H'
  | _ => False
section
variable {S : Sys} {t u : TS} {G : Gam} {R : Hp → Hp → V → Hp → Prop} {c : TT} {b : Bool} {te : TE} {d : Dat}
theorem rz_seq (sR : Stable R) (h : RunD S t G (ThenZ S u R)) : RunZ S (tSeq t u) G R := fun σ H1 H Ds e E q =>
  h σ H1 H { Ds with nx := u Ds } e E ⟨fun G' r σ' H2 H' s E' => r σ' H2 H' Ds s.s2 E' fun v H'' p => q v H'' (sR _ _ _ _ _ _ s p), fun d p H2 H' v s dv => q v H' (p H1 H H2 H' v s dv), fun _ p => p.elim, fun _ p => p.elim⟩
theorem rz_if (sR : Stable R) (h : EvT S c G b) (h1 : b = true → RunZ S t G R) (h2 : b = false → RunZ S u G R) : RunZ S (tSeq (tIfS c t tNext) u) G R := fun σ H1 H Ds e E q =>
  h σ H1 H e E _ fun H2 H' s => by
    cases b with
    | true => exact iteT (h1 rfl σ H2 H' { Ds with nx := u Ds } s.s2 (E.mono s.s1) fun v H'' p => q v H'' (sR _ _ _ _ _ _ s p))
    | false => exact iteF (h2 rfl σ H2 H' Ds s.s2 (E.mono s.s1) fun v H'' p => q v H'' (sR _ _ _ _ _ _ s p))
theorem rz_ret (h : EvD S te G d) (r : ∀ H1 H H2 H' v, Step H1 H H2 H' → Dt S H2 v d → R H1 H v H') : RunZ S (tRet te) G R := fun σ H1 H Ds e E q =>
  h σ H1 H e E _ fun H2 H' v s dv => q v H' (r H1 H H2 H' v s dv)
end
section
variable {S : Sys} {Pr : Program} {ww : World} {mg : Str → Option Value} {base : Heap} {x qual : Str} {params : Arguments} {body : List Stmt} {scope : Scope} {dvs : List V} {kws : List (Str × V)} {f : Addr} {fd : FuncData}
theorem rz_ok {ι : Type} {CX : CXT} {N ps : List Str} {k : Nat} {Pre : ι → List Dat → Prop} {Post : ι → Hp → Hp → V → Hp → Prop} (F : FunD S.K x qual params body scope dvs kws f fd) (sc : FnScope N ps scope) (len : ∀ j ds, Pre j ds → ds.length = ps.length)
    (hbody : ∀ (cdv : Value) (A : Around) (outer : List Env) (s : Shared) (H : Hp) (E : XK), Room k (A.deeper (envOfC qual scope s.heap.objs.size f cdv)) →
      ∃ t, PSs (cxOf CX Pr ww S.K mg base N qual scope f cdv A outer s H E).nox body t ∧ ∀ j ds, Pre j ds → RunZ S t (start0 N ds) (Post j)) : FnOk Pr ww S.K mg base CX (k + 1) f fd ps (spZ S Pre Post) :=
  z_ok F sc len fun cdv A outer s H E hr => by
    obtain ⟨t, ht, h⟩ := hbody cdv A outer s H E hr
    exact ⟨t, ht, fun j ds p σ H1 H Ds e E' q _ => h j ds p σ H1 H Ds e E' q⟩
end
structure ColOk (F : Frm) (cols : List (List Num)) (col : List Num) (n : Nat) : Prop where
  f : FrmOk F
  p : F.pins.length ≤ 5
  c : ∀ x ∈ cols, x.length = 2 * F.pins.length ∧ ∀ q ∈ x, Good n q
  d : col.length = 2 * F.pins.length ∧ ∀ q ∈ col, Good n q
  n : n * (cols.length + 2) ≤ 131071
  m : cols.length ≤ 200
theorem rowsBy_len (F : Frm) (cols : List (List Num)) : (rowsBy F cols).length = 2 * F.pins.length := by
  unfold rowsBy
  simp
theorem ColOk.solve {F : Frm} {cols : List (List Num)} {col : List Num} {n : Nat} (h : ColOk F cols col n) : SolveOk (rowsBy F cols) col cols.length n := by
  refine ⟨fun r hr => ?_, h.d.2, ?_, h.n, h.m, ?_⟩
  · unfold rowsBy at hr
    obtain ⟨k, hk, rfl⟩ := List.mem_map.mp hr
    refine ⟨List.length_map _, fun q hq => ?_⟩
    obtain ⟨x, hx, rfl⟩ := List.mem_map.mp hq
    obtain ⟨h1, h2⟩ := h.c x hx
    exact h2 _ (getD_mem (by rw [h1]; exact List.mem_range.mp hk))
  · rw [rowsBy_len]
    exact h.d.1
  · rw [rowsBy_len]
    have := h.p
    omega
theorem found_mem {P : Num → Prop} (many : Nat) : ∀ (l : Leads) (f : List Num), (∀ q ∈ f, P q) → (∀ p ∈ l, P (ratioOf (p.2.getD many 0) (p.2.getD p.1 0))) → ∀ q ∈ l.foldl (fun f p => f.set p.1 (ratioOf (p.2.getD many 0) (p.2.getD p.1 0))) f, P q
  | [], f, h, _ => h
  | p :: l, f, h, h2 => by
    rw [List.foldl_cons]
    refine found_mem many l _ (fun q hq => ?_) fun x hx => h2 x (List.mem_cons_of_mem _ hx)
    rcases List.mem_or_eq_of_mem_set hq with hq | rfl
    · exact h q hq
    · exact h2 p List.mem_cons_self
/-- the answer's numbers -/
theorem solve_good {rows : List (List Num)} {due : List Num} {many n : Nat} (h : SolveOk rows due many n) :
    (∀ q ∈ (solveRows rows due many).2, Good (1024 * (n * (many + 2) + 1) - 1) q) ∧ ((solveRows rows due many).1 = true → (solveRows rows due many).2.length = rows.length) ∧ ((solveRows rows due many).1 = false → (solveRows rows due many).2.length = many) := by
  have lok := h.led
  have inv := led_inv lok.c1 lok.l lok.b many
  have inv : LInv (many + 1 + rows.length) (jointRows rows due).length (n * (many + 2) + 1) many (ledRows (jointRows rows due) many) := inv
  have hl : (ledRows (jointRows rows due) many).1.length ≤ 10 := by
    have := inv.ct
    have := lok.n
    omega
  have hb : 2 ^ (ledRows (jointRows rows due) many).1.length * (n * (many + 2) + 1) - 1 ≤ 1024 * (n * (many + 2) + 1) - 1 := by
    have h1 : 2 ^ (ledRows (jointRows rows due) many).1.length ≤ 2 ^ 10 := Nat.pow_le_pow_right (by decide) hl
    have := Nat.mul_le_mul_right (n * (many + 2) + 1) h1
    omega
  have c1 : 1 ≤ 1024 * (n * (many + 2) + 1) - 1 := by
    have : 1024 * 1 ≤ 1024 * (n * (many + 2) + 1) := Nat.mul_le_mul_left _ (by omega)
    omega
  unfold solveRows
  dsimp only
  revert inv hb
  generalize ledRows (jointRows rows due) many = st at *
  intro inv hb
  cases hf : st.2.find? fun r => decide (r.getD many 0 ≠ 0) with
  | some j =>
    have hj := List.mem_of_find?_eq_some hf
    have hne : j.getD many 0 ≠ 0 := by
      have := List.find?_some hf
      exact of_decide_eq_true this
    have hB := (inv.b2 j hj).le hb
    refine ⟨fun q hq => ?_, fun _ => ?_, fun z => by cases z⟩
    · obtain ⟨x, hx, rfl⟩ := List.mem_map.mp hq
      exact ⟨sz_ratio (hB x (List.mem_of_mem_drop hx)) (hB.getD many), ratio_bot hne⟩
    · rw [List.length_map, List.length_drop, inv.l2 j hj]
      omega
  | none =>
    refine ⟨found_mem many _ _ (fun q hq => ?_) (fun p hp => ?_), (fun z => by cases z), fun _ => ?_⟩
    · rw [List.eq_of_mem_replicate hq]
      exact ⟨sz_nought.le c1, by decide⟩
    · have hB := (inv.b1 p hp).le hb
      exact ⟨sz_ratio (hB.getD many) (hB.getD p.1), ratio_bot (inv.pv p hp)⟩
    · exact found_len many st.1
section
variable {Pr : Program} {w : World} {K : PySem.W.Frag} {mg : Str → Option Value} {base : Heap}
def Pre_column_told (j : Frm × List (List Num) × List Num) (ds : List Dat) : Prop := ds = [.frm j.1, colsD j.2.1, colD j.2.2] ∧ ∃ n, ColOk j.1 j.2.1 j.2.2 n
def solOf (F : Frm) (cols : List (List Num)) (col : List Num) : Bool × List Num := solveRows (rowsBy F cols) col cols.length
def turned (l : List Num) : List Num := l.map turnOf
def Post_column_told (K : PySem.W.Frag) (j : Frm × List (List Num) × List Num) (H1 H : Hp) (v : V) (H' : Hp) : Prop :=
  ((solOf j.1 j.2.1 j.2.2).1 = true ∧ ∃ H2 D o, Step H1 H H2 H' ∧ H D = none ∧ H2 D = none ∧ H' D = some o ∧ OwnAt (sysOf K) H2 o (.K (motionK j.1 (turned (solOf j.1 j.2.1 j.2.2).2))) ∧ Dt (sysOf K) H2 v (.tup [.ptr D, .non])) ∨
  ((solOf j.1 j.2.1 j.2.2).1 = false ∧ ∃ H2, Step H1 H H2 H' ∧ Dt (sysOf K) H2 v (.tup [.non, colD (turned (solOf j.1 j.2.1 j.2.2).2)]))
theorem ok_column_told (T : Txt K mg) (B : Bas Pr base) : FnOk Pr w K mg base CX0 45 (He.ga K "column_told") (fdAt K (He.ga K "column_told")) ["frame", "columns", "column"] (spZ (sysOf K) Pre_column_told (Post_column_told K)) := by
  refine rz_ok (S := sysOf K) (k := 44) T.F_column_told sc_column_told (fun j ds h => ?_) (fun cdv A outer s H E hr => ?_)
  · obtain ⟨rfl, _⟩ := h
    rfl
  · refine ⟨_, (pss_cons (ps_set (i := 3) (sc_column_told).nd rfl (Or.inl rfl) (pe_call (ok_rows_by T B) (hr.mono (by decide)) rfl T.g_rows_by T.F_rows_by.kp T.b_rows_by .nil pass0 (pa_cons (pv 0) (pa_cons (pv 1) pa_nil)))) (pss_cons (ps_asg (pe_call (ok_solve_rows T B) (hr.mono (by decide)) rfl T.g_solve_rows T.F_solve_rows.kp T.b_solve_rows .nil pass0 (pa_cons (pv 3) (pa_cons (pv 2) (pa_cons (pe_callB call_len_seq (by rfl) T.n_len (by decide +kernel) (pa_cons (pv 1) pa_nil)) pa_nil)))) (pg_tup rfl (pgs_cons (pg_name (i := 4) (sc_column_told).nd rfl (Or.inl rfl)) (pgs_cons (pg_name (i := 5) (sc_column_told).nd rfl (Or.inl rfl)) pgs_nil)))) (pss_cons (ps_if (pt_cmpR op_eq (pv 4) pe_str (nomark _)) (pss_one (ps_ret (pe_tup (pa_cons (pe_call (ok_motion_by T B) (hr.mono (by decide)) rfl T.g_motion_by T.F_motion_by.kp T.b_motion_by .nil pass0 (pa_cons (pv 0) (pa_cons (pe_lc (own := [("one", 6)]) (g := gName 6) (tt := tYes) rfl (sc_column_told).nd (pi_list (pv 5)) (blkOk_by (N := ["frame", "columns", "column", "rows", "word", "told", "one"]) (sc := defScope s_column_told) (by decide +kernel)) (fun _ _ _ _ _ => pg_name (i := 6) (sc_column_told).nd rfl (Or.inl rfl)) (fun _ _ _ _ _ => pts_nil) (fun _ _ _ _ _ => (pe_call (ok_turned_about T B) (hr.mono (by decide)) rfl T.g_turned_about T.F_turned_about.kp T.b_turned_about .nil pass0 (pa_cons (pv 6) pa_nil)))) pa_nil))) (pa_cons pe_non pa_nil))))) pss_nil) (pss_one (ps_ret (pe_tup (pa_cons pe_non (pa_cons (pe_lc (own := [("one", 6)]) (g := gName 6) (tt := tYes) rfl (sc_column_told).nd (pi_list (pv 5)) (blkOk_by (N := ["frame", "columns", "column", "rows", "word", "told", "one"]) (sc := defScope s_column_told) (by decide +kernel)) (fun _ _ _ _ _ => pg_name (i := 6) (sc_column_told).nd rfl (Or.inl rfl)) (fun _ _ _ _ _ => pts_nil) (fun _ _ _ _ _ => (pe_call (ok_turned_about T B) (hr.mono (by decide)) rfl T.g_turned_about T.F_turned_about.kp T.b_turned_about .nil pass0 (pa_cons (pv 6) pa_nil)))) pa_nil)))))))), fun ⟨F, cols, col⟩ ds h => ?_⟩
    obtain ⟨rfl, n, ok⟩ := h
    dsimp only at ok ⊢
    have sok := ok.solve
    obtain ⟨sg, sl1, sl2⟩ := solve_good sok
    have hN := ok.n
    have hbig : 1024 * (n * (cols.length + 2) + 1) - 1 + 1 ≤ 134217728 := by omega
    have hr1 : solveRows (rowsBy F cols) col cols.length = solOf F cols col := rfl
    rw [hr1] at sg sl1 sl2
    have sR : Stable (Post_column_told K (F, cols, col)) := fun H1 H Ha Hb v H' s p => by
      rcases p with ⟨p, H2, D, o, s2, h1, h2, h3, h4, h5⟩ | ⟨p, H2, s2, h5⟩
      · exact .inl ⟨p, H2, D, o, s.trans s2, s.s3.free h1, h2, h3, h4, h5⟩
      · exact .inr ⟨p, H2, s.trans s2, h5⟩
    have hll : (solOf F cols col).2.length ≤ 1000 := by
      have h5 := ok.p
      have hm := ok.m
      cases hz : (solOf F cols col).1 with
      | true => rw [sl1 hz, rowsBy_len]; omega
      | false => rw [sl2 hz]; omega
    have lc : ∀ x3, EvD (sysOf K) (tLc (iList (sysOf K).K (tVar 5)) (gName 6) tYes (tCall (spF (sysOf K) R_turned_about) [] E0 (tCons (tVar 6) tNil)) [6]) [some (.frm F), some (colsD cols), some (colD col), x3, some (wordD (solOf F cols col).1), some (colD (solOf F cols col).2), none] (colD (turned (solOf F cols col).2)) := fun x3 => by
      refine ed_lc_list (ds := (solOf F cols col).2.map num) (rs := (turned (solOf F cols col).2).map num) (ed_var rfl) (by unfold turned; simp) (by simpa using hll) fun k d r hd hr => ?_
      obtain ⟨p, hp, rfl⟩ := map_get hd
      obtain ⟨p', hp', rfl⟩ := map_get hr
      unfold turned at hp'
      obtain ⟨p2, hp2, rfl⟩ := map_get hp'
      rw [hp] at hp2
      cases hp2
      have gp := sg p (get_mem hp)
      exact ed_call (ea_cons (ed_var rfl) ea_nil) ⟨p, _, rfl, by have := gp.2; omega, gp.1, hbig, rfl⟩
    refine rz_seq sR (rd_set (ed_call (ea_cons (ed_var rfl) (ea_cons (ed_var rfl) ea_nil)) ⟨F, cols, rfl, ok.f.pl, by have := ok.m; omega, fun c hc => (ok.c c hc).1, rfl⟩) ?_)
    refine rz_seq sR (rd_asg (ed_call (ea_cons (ed_var rfl) (ea_cons (ed_var rfl) (ea_cons (ed_cb (ea_cons (ed_var rfl) ea_nil) rc_lenCols) ea_nil))) ⟨rowsBy F cols, col, cols.length, n, rfl, sok, rfl⟩) (tg_tup (ds := [wordD (solOf F cols col).1, colD (solOf F cols col).2]) (tgs_cons tg_name (tgs_cons tg_name tgs_nil))) ?_)
    refine rz_if sR (b := decide ((if (solOf F cols col).1 then ("paper" : Str) else "solved") = "paper")) (et_test (ed_op (ed_var rfl) ed_str rv_eqS)) (fun h => ?_) (fun h => ?_)
    · have hz : (solOf F cols col).1 = true := by
        cases q : (solOf F cols col).1 with
        | true => rfl
        | false =>
          rw [q] at h
          exact absurd h (by decide)
      intro σ H1 H Ds e E q
      refine new_call (ea_cons (ed_var (i := 0) rfl) (ea_cons (lc (some (colsD (rowsBy F cols)))) ea_nil)) ⟨F, turned (solOf F cols col).2, rfl, ok.f, by unfold turned; rw [List.length_map, sl1 hz, rowsBy_len], rfl⟩ σ H1 H e E _ fun H2 H' D o s hD hn ho hw => ?_
      refine ⟨Nat.le_of_ble_eq_true rfl, fun p hp => q _ _ (.inl ⟨hz, upd H2 p (.tup [.ref D, .non]), D, o, s.trans (Step.new s.s2 hp), hD, ?_, ?_, ?_, ?_⟩)⟩
      · have : D ≠ p := fun z => by rw [← z, ho] at hp; cases hp
        rw [upd_ne this]
        exact hn
      · have : D ≠ p := fun z => by rw [← z, ho] at hp; cases hp
        rw [upd_ne this]
        exact ho
      · exact hw.mono (same_new (s.s2.free hp))
      · exact .tup (SqT.of upd_same) (.cons (.ptr D) (.cons .non .nil))
    · have hz : (solOf F cols col).1 = false := by
        cases q : (solOf F cols col).1 with
        | false => rfl
        | true =>
          rw [q] at h
          exact absurd h (by decide)
      exact rz_ret (ed_tup (ea_cons ed_non (ea_cons (lc _) ea_nil))) fun H1 H H2 H' v s dv => .inr ⟨hz, H2, s, dv⟩
end
end Ty
set_option Elab.async false
set_option linter.all false
set_option maxRecDepth 100000
set_option maxHeartbeats 4000000
/-! Errors: what the written part says of the classes, their making. -/
namespace Ty
open PySem PySem.Spec PyProof.Rows L2
structure ErrT (K : PySem.W.Frag) (C : Str) (f : Str) : Prop where
  oex : OexC K (He.ga K C)
  iC : PySem.W.findIn K (.ref (He.ga K C)) "__init__" = some (some (.ref (He.ma K (He.ga K C) "__init__")))
  tI : PySem.W.typeIn K (.ref (He.ma K (He.ga K C) "__init__")) = some (.type "function")
  fl : PySem.W.findIn K (.ref (He.ga K C)) f = some none
  xf : XfC K (He.ga K C)
def errs : List Str := ["BarThere", "NoPin", "NoLength", "TooMany"]
structure Exq (K : PySem.W.Frag) : Prop where
  bar : ErrT K "BarThere" "bar"
  pin : ErrT K "NoPin" "pin"
  len : ErrT K "NoLength" "bar"
  ye : YeC K (He.ga K "YardError")
  qM : PySem.W.excIn K (He.ga K "TooMany") [.type "ValueError", .type "Exception", .type "BaseException", .type "object"] "ValueError.__new__" = true
  kM : PySem.W.keepIn K (.ref (He.ga K "TooMany")) = true
  bM : PySem.W.subIn K (.ref (He.ga K "TooMany")) (.type "BaseException") = some true
  tM : PySem.W.typeIn K (.ref (He.ga K "TooMany")) = some (.type "type")
  exc : ∀ x ∈ errs, ExcC K (He.ga K x)
  exm : ∀ x ∈ errs, ∀ y ∈ errs, PySem.W.exmOne K (.ref (He.ga K x)) (.ref (He.ga K y)) = some (decide (x = y))
  kit : ∀ x ∈ errs, ∀ y ∈ errs, PySem.W.kitOne K (.ref (He.ga K x)) (.ref (He.ga K y)) = some (decide (x = y))
  kye : ∀ x ∈ errs, PySem.W.kitOne K (.ref (He.ga K x)) (.ref (He.ga K "YardError")) = some true
section
variable {Pr : Program} {w : World} {K : PySem.W.Frag} {mg : Str → Option Value} {base : Heap}

def Sp_BarThere_init (K : PySem.W.Frag) : Sp := fun vs H Q _ => ∃ (a : Addr) (x : Str), vs = [.ref a, .str x] ∧ H a = some (exo a (He.ga K "BarThere") none) ∧ ∀ dx, H dx = none → dx ≠ a → Q .non (upd (upd H dx (exd dx [("bar", .str x)])) a (exo a (He.ga K "BarThere") (some dx)))
theorem ok_BarThere_init (T : Txt K mg) (X : Exq K) : FnOk Pr w K mg base CX0 40 (He.ma K (He.ga K "BarThere") "__init__") (fdAt K (He.ma K (He.ga K "BarThere") "__init__")) ["self", "bar"] (Sp_BarThere_init K) := by
  refine FunD.ok T.F_BarThere_init sc_BarThere_init (fun vs H Q E h => ?_) (fun cdv A outer s H vs Q E hr h => ?_)
  · obtain ⟨a, x, rfl, _⟩ := h
    rfl
  · refine ⟨_, PSs.nox (pss_cons (ps_expr (pe_yeinit X.ye rfl T.g_YardError (pa_cons (pv 0) (pa_cons pe_str pa_nil)))) (pss_one (ps_ost (pv 0) (pv 1)))), ?_⟩
    obtain ⟨a, x, rfl, ha, q⟩ := h
    refine ⟨_, rfl, a, _, [V.str _], rfl, Nat.le_of_ble_eq_true rfl, X.bar.oex, ha, ?_⟩
    exact ⟨_, rfl, _, rfl, a, _, rfl, X.bar.oex, X.bar.fl, .inl ⟨ha, fun dx h1 h2 => q dx h1 h2⟩⟩
/-- raise BarThere(..) -/
theorem mk_BarThere (T : Txt K mg) (X : Exq K) {Xc : Cx} (hK : Xc.K = K) (hP : Xc.prog = Pr) (hw : Xc.w = w) (hm : Xc.mg = mg) (hb : Xc.base = base) {e : Expr} {te : TE} {p pos : Pos} (hr : Room 41 Xc.A) (hg : Gl Xc "BarThere") (he : PE Xc e te) (h1 : starEach [e] Xc.env = (false, eval e Xc.env) :: starEach [] Xc.env := by rfl) :
    PMk Xc (.Call (.Name "BarThere" p) [e] [] pos) (tMkO (He.ga K "BarThere") (Sp_BarThere_init K) [] (tCons te tNil)) := by
  subst hK hP hw hm hb
  exact pmk_oex X.bar.oex X.bar.iC X.bar.tI (ok_BarThere_init T X) hr T.b_BarThere_init .nil pass0 hg T.g_BarThere (pa_cons he pa_nil h1) (by decide) h1 rfl
theorem mk_BarThere_end {S : Sys} {K : PySem.W.Frag} {H1 H : Hp} {x : Str} {Q : XK} (e : Same H1 H) (h : ∀ H' d, Step H1 H H1 H' → H' d = some (.xd [("bar", .str x)]) → Q (.ref (He.ga K "BarThere")) (some d) H') (a : Addr) (ha : H a = none) :
    Sp_BarThere_init K (.ref a :: ([V.str x] ++ [])) (upd H a (exo a (He.ga K "BarThere") none)) (fun v H2 => v = .non ∧ ∃ (d : Addr) (fs : List (Str × V)), H2 a = some (exo a (He.ga K "BarThere") (some d)) ∧ H2 d = some (exd d fs) ∧ H d = none ∧ Q (.ref (He.ga K "BarThere")) (some d) (upd (del H2 a) d (.xd fs))) (fun _ _ _ => False) := by
  refine ⟨a, x, rfl, upd_same, fun dx h1 h2 => ⟨rfl, dx, [("bar", .str x)], upd_same, ?_, ?_, ?_⟩⟩
  · rw [upd_ne h2, upd_same]
  · rw [upd_ne h2] at h1
    exact h1
  · rw [upd_ne h2] at h1
    have hS : Same H (upd (del (upd (upd (upd H a (exo a (He.ga K "BarThere") none)) dx (exd dx [("bar", .str x)])) a (exo a (He.ga K "BarThere") (some dx))) a) dx (.xd [("bar", .str x)])) := fun b o hb => by
      have n1 : b ≠ dx := fun z => by rw [z, h1] at hb; cases hb
      have n2 : b ≠ a := fun z => by rw [z, ha] at hb; cases hb
      rw [upd_ne n1, del_ne n2, upd_ne n2, upd_ne n1, upd_ne n2]
      exact hb
    exact h _ dx ⟨Same.refl _, e.trans hS, hS, fun _ _ h => .inl h⟩ upd_same

def Sp_NoPin_init (K : PySem.W.Frag) : Sp := fun vs H Q _ => ∃ (a : Addr) (x : Str), vs = [.ref a, .str x] ∧ H a = some (exo a (He.ga K "NoPin") none) ∧ ∀ dx, H dx = none → dx ≠ a → Q .non (upd (upd H dx (exd dx [("pin", .str x)])) a (exo a (He.ga K "NoPin") (some dx)))
theorem ok_NoPin_init (T : Txt K mg) (X : Exq K) : FnOk Pr w K mg base CX0 40 (He.ma K (He.ga K "NoPin") "__init__") (fdAt K (He.ma K (He.ga K "NoPin") "__init__")) ["self", "pin"] (Sp_NoPin_init K) := by
  refine FunD.ok T.F_NoPin_init sc_NoPin_init (fun vs H Q E h => ?_) (fun cdv A outer s H vs Q E hr h => ?_)
  · obtain ⟨a, x, rfl, _⟩ := h
    rfl
  · refine ⟨_, PSs.nox (pss_cons (ps_expr (pe_yeinit X.ye rfl T.g_YardError (pa_cons (pv 0) (pa_cons pe_str pa_nil)))) (pss_one (ps_ost (pv 0) (pv 1)))), ?_⟩
    obtain ⟨a, x, rfl, ha, q⟩ := h
    refine ⟨_, rfl, a, _, [V.str _], rfl, Nat.le_of_ble_eq_true rfl, X.pin.oex, ha, ?_⟩
    exact ⟨_, rfl, _, rfl, a, _, rfl, X.pin.oex, X.pin.fl, .inl ⟨ha, fun dx h1 h2 => q dx h1 h2⟩⟩
/-- raise NoPin(..) -/
theorem mk_NoPin (T : Txt K mg) (X : Exq K) {Xc : Cx} (hK : Xc.K = K) (hP : Xc.prog = Pr) (hw : Xc.w = w) (hm : Xc.mg = mg) (hb : Xc.base = base) {e : Expr} {te : TE} {p pos : Pos} (hr : Room 41 Xc.A) (hg : Gl Xc "NoPin") (he : PE Xc e te) (h1 : starEach [e] Xc.env = (false, eval e Xc.env) :: starEach [] Xc.env := by rfl) :
    PMk Xc (.Call (.Name "NoPin" p) [e] [] pos) (tMkO (He.ga K "NoPin") (Sp_NoPin_init K) [] (tCons te tNil)) := by
  subst hK hP hw hm hb
  exact pmk_oex X.pin.oex X.pin.iC X.pin.tI (ok_NoPin_init T X) hr T.b_NoPin_init .nil pass0 hg T.g_NoPin (pa_cons he pa_nil h1) (by decide) h1 rfl
theorem mk_NoPin_end {S : Sys} {K : PySem.W.Frag} {H1 H : Hp} {x : Str} {Q : XK} (e : Same H1 H) (h : ∀ H' d, Step H1 H H1 H' → H' d = some (.xd [("pin", .str x)]) → Q (.ref (He.ga K "NoPin")) (some d) H') (a : Addr) (ha : H a = none) :
    Sp_NoPin_init K (.ref a :: ([V.str x] ++ [])) (upd H a (exo a (He.ga K "NoPin") none)) (fun v H2 => v = .non ∧ ∃ (d : Addr) (fs : List (Str × V)), H2 a = some (exo a (He.ga K "NoPin") (some d)) ∧ H2 d = some (exd d fs) ∧ H d = none ∧ Q (.ref (He.ga K "NoPin")) (some d) (upd (del H2 a) d (.xd fs))) (fun _ _ _ => False) := by
  refine ⟨a, x, rfl, upd_same, fun dx h1 h2 => ⟨rfl, dx, [("pin", .str x)], upd_same, ?_, ?_, ?_⟩⟩
  · rw [upd_ne h2, upd_same]
  · rw [upd_ne h2] at h1
    exact h1
  · rw [upd_ne h2] at h1
    have hS : Same H (upd (del (upd (upd (upd H a (exo a (He.ga K "NoPin") none)) dx (exd dx [("pin", .str x)])) a (exo a (He.ga K "NoPin") (some dx))) a) dx (.xd [("pin", .str x)])) := fun b o hb => by
      have n1 : b ≠ dx := fun z => by rw [z, h1] at hb; cases hb
      have n2 : b ≠ a := fun z => by rw [z, ha] at hb; cases hb
      rw [upd_ne n1, del_ne n2, upd_ne n2, upd_ne n1, upd_ne n2]
      exact hb
    exact h _ dx ⟨Same.refl _, e.trans hS, hS, fun _ _ h => .inl h⟩ upd_same

def Sp_NoLength_init (K : PySem.W.Frag) : Sp := fun vs H Q _ => ∃ (a : Addr) (x : Str), vs = [.ref a, .str x] ∧ H a = some (exo a (He.ga K "NoLength") none) ∧ ∀ dx, H dx = none → dx ≠ a → Q .non (upd (upd H dx (exd dx [("bar", .str x)])) a (exo a (He.ga K "NoLength") (some dx)))
theorem ok_NoLength_init (T : Txt K mg) (X : Exq K) : FnOk Pr w K mg base CX0 40 (He.ma K (He.ga K "NoLength") "__init__") (fdAt K (He.ma K (He.ga K "NoLength") "__init__")) ["self", "bar"] (Sp_NoLength_init K) := by
  refine FunD.ok T.F_NoLength_init sc_NoLength_init (fun vs H Q E h => ?_) (fun cdv A outer s H vs Q E hr h => ?_)
  · obtain ⟨a, x, rfl, _⟩ := h
    rfl
  · refine ⟨_, PSs.nox (pss_cons (ps_expr (pe_yeinit X.ye rfl T.g_YardError (pa_cons (pv 0) (pa_cons pe_str pa_nil)))) (pss_one (ps_ost (pv 0) (pv 1)))), ?_⟩
    obtain ⟨a, x, rfl, ha, q⟩ := h
    refine ⟨_, rfl, a, _, [V.str _], rfl, Nat.le_of_ble_eq_true rfl, X.len.oex, ha, ?_⟩
    exact ⟨_, rfl, _, rfl, a, _, rfl, X.len.oex, X.len.fl, .inl ⟨ha, fun dx h1 h2 => q dx h1 h2⟩⟩
/-- raise NoLength(..) -/
theorem mk_NoLength (T : Txt K mg) (X : Exq K) {Xc : Cx} (hK : Xc.K = K) (hP : Xc.prog = Pr) (hw : Xc.w = w) (hm : Xc.mg = mg) (hb : Xc.base = base) {e : Expr} {te : TE} {p pos : Pos} (hr : Room 41 Xc.A) (hg : Gl Xc "NoLength") (he : PE Xc e te) (h1 : starEach [e] Xc.env = (false, eval e Xc.env) :: starEach [] Xc.env := by rfl) :
    PMk Xc (.Call (.Name "NoLength" p) [e] [] pos) (tMkO (He.ga K "NoLength") (Sp_NoLength_init K) [] (tCons te tNil)) := by
  subst hK hP hw hm hb
  exact pmk_oex X.len.oex X.len.iC X.len.tI (ok_NoLength_init T X) hr T.b_NoLength_init .nil pass0 hg T.g_NoLength (pa_cons he pa_nil h1) (by decide) h1 rfl
theorem mk_NoLength_end {S : Sys} {K : PySem.W.Frag} {H1 H : Hp} {x : Str} {Q : XK} (e : Same H1 H) (h : ∀ H' d, Step H1 H H1 H' → H' d = some (.xd [("bar", .str x)]) → Q (.ref (He.ga K "NoLength")) (some d) H') (a : Addr) (ha : H a = none) :
    Sp_NoLength_init K (.ref a :: ([V.str x] ++ [])) (upd H a (exo a (He.ga K "NoLength") none)) (fun v H2 => v = .non ∧ ∃ (d : Addr) (fs : List (Str × V)), H2 a = some (exo a (He.ga K "NoLength") (some d)) ∧ H2 d = some (exd d fs) ∧ H d = none ∧ Q (.ref (He.ga K "NoLength")) (some d) (upd (del H2 a) d (.xd fs))) (fun _ _ _ => False) := by
  refine ⟨a, x, rfl, upd_same, fun dx h1 h2 => ⟨rfl, dx, [("bar", .str x)], upd_same, ?_, ?_, ?_⟩⟩
  · rw [upd_ne h2, upd_same]
  · rw [upd_ne h2] at h1
    exact h1
  · rw [upd_ne h2] at h1
    have hS : Same H (upd (del (upd (upd (upd H a (exo a (He.ga K "NoLength") none)) dx (exd dx [("bar", .str x)])) a (exo a (He.ga K "NoLength") (some dx))) a) dx (.xd [("bar", .str x)])) := fun b o hb => by
      have n1 : b ≠ dx := fun z => by rw [z, h1] at hb; cases hb
      have n2 : b ≠ a := fun z => by rw [z, ha] at hb; cases hb
      rw [upd_ne n1, del_ne n2, upd_ne n2, upd_ne n1, upd_ne n2]
      exact hb
    exact h _ dx ⟨Same.refl _, e.trans hS, hS, fun _ _ h => .inl h⟩ upd_same
end
end Ty
set_option Elab.async false
set_option linter.all false
set_option maxRecDepth 100000
set_option maxHeartbeats 4000000
/-! ask_bar: it may raise. -/
namespace Ty
open PySem PySem.Spec PyProof.Rows L2
def RunS (S : Sys) (Hs H0 : Hp) (ts : TS) (G : Gam) (P : Out → Prop) : Prop := ∀ σ H1 H Ds, Step Hs H0 H1 H → EnvD S H1 σ G → Fin S H1 H Ds P → ts Ds σ H
def ThenS (S : Sys) (Hs H0 : Hp) (u : TS) (P : Out → Prop) : Out → Prop
  | .nx G => RunS S Hs H0 u G P
  | o => P o
section
variable {S : Sys} {Hs H0 : Hp} {t u : TS} {G : Gam} {P : Out → Prop} {c : TT} {b : Bool} {te : TE} {x : Str}
theorem rs_of (r : RunD S t G P) : RunS S Hs H0 t G P := fun σ H1 H Ds s E f => r σ H1 H Ds s.s2 E f
theorem rs_seq (h : RunS S Hs H0 t G (ThenS S Hs H0 u P)) : RunS S Hs H0 (tSeq t u) G P := fun σ H1 H Ds s E f =>
  h σ H1 H { Ds with nx := u Ds } s E ⟨fun G' r σ' H2 H' s' E' => r σ' H2 H' Ds (s.trans s') E' (f.step s'), fun d p => f.rt d p, fun G' p => f.bk G' p, fun G' p => f.ct G' p⟩
theorem rs_if (h : EvT S c G b) (h1 : b = true → RunS S Hs H0 t G P) (h2 : b = false → RunS S Hs H0 u G P) : RunS S Hs H0 (tIfS c t u) G P := fun σ H1 H Ds s E f =>
  h σ H1 H s.s2 E _ fun H2 H' s' => by
    cases b with
    | true => exact iteT (h1 rfl σ H2 H' Ds (s.trans s') (E.mono s'.s1) (f.step s'))
    | false => exact iteF (h2 rfl σ H2 H' Ds (s.trans s') (E.mono s'.s1) (f.step s'))
theorem rs_next (p : P (.nx G)) : RunS S Hs H0 tNext G P := rs_of (rd_next p)
theorem rs_for_list {g : TG} {ds : List Dat} (hl : EvD S te G (.lst ds)) (I : Nat → Gam → Prop) (h0 : I 0 G)
    (hs : ∀ (k : Nat) (d : Dat) (G : Gam), ds[k]? = some d → I k G → ∃ G', TgD S g d G G' ∧ RunS S Hs H0 t G' (Turns (I (k + 1)) P)) (hd : ∀ G, I ds.length G → P (.nx G)) : RunS S Hs H0 (tFor (iList S.K te) g t) G P := fun σ H1 H D st E f => by
  refine hl σ H1 H st.s2 E _ fun H2 H' v s dv => ?_
  cases dv with
  | @lst a xs _ ha hA =>
    refine ⟨a, rfl, ⟨xs, SqL.of (s.s2 _ _ ha)⟩, for_list (K := S.K) (a := a) (xs := xs) (fun i σ3 H3 => ∃ H4 G3, Step H2 H' H4 H3 ∧ EnvD S H4 σ3 G3 ∧ I i G3) ⟨H2, G, Step.refl s.s2, E.mono s.s1, h0⟩ (fun i σ3 H3 _ ⟨H4, G3, s3, _, _⟩ => SqL.of (s3.s2 _ _ (s3.s1 _ _ ha))) ?_ ?_⟩
    · rintro i x σ3 H3 hx ⟨H4, G3, s3, E3, i3⟩
      obtain ⟨d, hd', hv⟩ := hA.getV hx
      obtain ⟨G', tg, rb⟩ := hs i d G3 hd' i3
      refine tg x σ3 H4 H3 s3.s2 E3 (hv.mono s3.s1) _ fun σ4 E4 => ?_
      exact rb σ4 H4 H3 _ ((st.trans s).trans s3) E4 (Fin.turns (s.trans s3) f fun G5 i5 σ5 H5 H5' s5 E5 => ⟨H5, G5, s3.trans s5, E5, i5⟩)
    · rintro σ3 H3 ⟨H4, G3, s3, E3, i3⟩
      rw [hA.length] at i3
      exact f.nx G3 (hd G3 i3) σ3 H4 H3 (s.trans s3) E3
end
inductive Err where
  | bar (x : Str) | pin (x : Str) | len (x : Str) | many
def askOf (F : Frm) (n x y : Str) : Option Err :=
  if (F.barAt n).isSome then some (.bar n) else if (F.pinAt x).isNone then some (.pin x) else if (F.pinAt y).isNone then some (.pin y) else if x = y then some (.len n) else if 60 ≤ F.bars.length then some .many else none
def ErrAt (K : PySem.W.Frag) : Err → Value → Option Addr → Hp → Prop
  | .bar x, c, d, H => c = .ref (He.ga K "BarThere") ∧ ∃ dd, d = some dd ∧ H dd = some (.xd [("bar", .str x)])
  | .pin x, c, d, H => c = .ref (He.ga K "NoPin") ∧ ∃ dd, d = some dd ∧ H dd = some (.xd [("pin", .str x)])
  | .len x, c, d, H => c = .ref (He.ga K "NoLength") ∧ ∃ dd, d = some dd ∧ H dd = some (.xd [("bar", .str x)])
  | .many, c, d, H => c = .ref (He.ga K "TooMany") ∧ d = none
section
variable {K : PySem.W.Frag} {S : Sys} {Hs H0 : Hp} {G : Gam} {P : Out → Prop} {te : TE} {x : Str} {E : XK}
theorem rs_bar (he : EvD S te G (.str x)) (hE : ∀ H2 H' c d, Step Hs H0 H2 H' → ErrAt K (.bar x) c d H' → E c d H') : RunS S Hs H0 (fun _ σ H => tMkO (He.ga K "BarThere") (Sp_BarThere_init K) [] (tCons te tNil) σ H fun cls d H' => E cls d H') G P := fun σ H1 H Ds s E' f =>
  (ea_cons he ea_nil) σ H1 H s.s2 E' _ fun H2 H' vs s2 dv => by
    cases dv with
    | cons d1 t1 =>
      cases t1
      cases d1
      exact ⟨Nat.le_of_ble_eq_true rfl, mk_BarThere_end (S := S) s2.s2 fun H3 d s3 hd => hE H2 H3 _ _ ((s.trans s2).trans s3) ⟨rfl, d, rfl, hd⟩⟩
theorem rs_pin (he : EvD S te G (.str x)) (hE : ∀ H2 H' c d, Step Hs H0 H2 H' → ErrAt K (.pin x) c d H' → E c d H') : RunS S Hs H0 (fun _ σ H => tMkO (He.ga K "NoPin") (Sp_NoPin_init K) [] (tCons te tNil) σ H fun cls d H' => E cls d H') G P := fun σ H1 H Ds s E' f =>
  (ea_cons he ea_nil) σ H1 H s.s2 E' _ fun H2 H' vs s2 dv => by
    cases dv with
    | cons d1 t1 =>
      cases t1
      cases d1
      exact ⟨Nat.le_of_ble_eq_true rfl, mk_NoPin_end (S := S) s2.s2 fun H3 d s3 hd => hE H2 H3 _ _ ((s.trans s2).trans s3) ⟨rfl, d, rfl, hd⟩⟩
theorem rs_len (he : EvD S te G (.str x)) (hE : ∀ H2 H' c d, Step Hs H0 H2 H' → ErrAt K (.len x) c d H' → E c d H') : RunS S Hs H0 (fun _ σ H => tMkO (He.ga K "NoLength") (Sp_NoLength_init K) [] (tCons te tNil) σ H fun cls d H' => E cls d H') G P := fun σ H1 H Ds s E' f =>
  (ea_cons he ea_nil) σ H1 H s.s2 E' _ fun H2 H' vs s2 dv => by
    cases dv with
    | cons d1 t1 =>
      cases t1
      cases d1
      exact ⟨Nat.le_of_ble_eq_true rfl, mk_NoLength_end (S := S) s2.s2 fun H3 d s3 hd => hE H2 H3 _ _ ((s.trans s2).trans s3) ⟨rfl, d, rfl, hd⟩⟩
theorem rs_many (hE : ∀ H2 H' c d, Step Hs H0 H2 H' → ErrAt K .many c d H' → E c d H') : RunS S Hs H0 (fun _ σ H => (fun (_ : L2.St) (H : Hp) (Q : XK) => Q (.ref (He.ga K "TooMany")) none H) σ H fun cls d H' => E cls d H') G P := fun σ H1 H Ds s E' f => hE H1 H _ _ s ⟨rfl, rfl⟩
end
section
variable {Pr : Program} {w : World} {K : PySem.W.Frag} {mg : Str → Option Value} {base : Heap}
def Sp_ask (K : PySem.W.Frag) : Sp := fun vs H Q E => ∃ H1 F n x y, Same H1 H ∧ DtA (sysOf K) H1 vs [.frm F, .str n, .str x, .str y] ∧ (askOf F n x y = none → ∀ H2 H', Step H1 H H2 H' → Q .non H') ∧ ∀ e, askOf F n x y = some e → ∀ H2 H' c d, Step H1 H H2 H' → ErrAt K e c d H' → E c d H'
theorem ok_Frame_ask_bar (T : Txt K mg) (B : Bas Pr base) (X : Exq K) : FnOk Pr w K mg base (L2.CX Pr w) 42 (He.ma K (He.ga K "Frame") "ask_bar") (fdAt K (He.ma K (He.ga K "Frame") "ask_bar")) ["self", "name", "one", "other"] (Sp_ask K) := by
  obtain ⟨tB, g_MOST_BARS⟩ := T.x_MOST_BARS
  refine FunD.ok T.F_Frame_ask_bar sc_Frame_ask_bar (fun vs H Q E h => ?_) (fun cdv A outer s H vs Q E hr h => ?_)
  · obtain ⟨H1, F, n, x, y, _, dv, _⟩ := h
    exact dv.length
  · obtain ⟨H1, F, n, x, y, e, dv, hQ, hE⟩ := h
    refine ⟨_, (pss_cons (ps_if (pt_cmp (pc_din (hu_of hr) (pv 1) (pe_fld (pv 0) rfl))) (pss_one (ps_raise rfl (takes_of rfl rfl rfl rfl) (mk_BarThere T X rfl rfl rfl rfl rfl hr rfl (pv 1)))) pss_nil) (pss_cons (ps_for (passes_of rfl) rfl (pi_list (pe_lst (pa_cons (pv 2) (pa_cons (pv 3) pa_nil)))) (pg_name (i := 4) (sc_Frame_ask_bar).nd rfl (Or.inl rfl)) (pss_one (ps_if (pt_cmp (pc_dnotin (hu_of hr) (pv 4) (pe_fld (pv 0) rfl))) (pss_one (ps_raise rfl (takes_of rfl rfl rfl rfl) (mk_NoPin T X rfl rfl rfl rfl rfl hr rfl (pv 4)))) pss_nil)))
      (pss_cons (ps_if (pt_cmpR op_eq (pv 2) (pv 3) (nomark _)) (pss_one (ps_raise rfl (takes_of rfl rfl rfl rfl) (mk_NoLength T X rfl rfl rfl rfl rfl hr rfl (pv 1)))) pss_nil) (pss_one (ps_if (pt_cmpR op_ge (pe_callB call_lenD (by rfl) T.n_len (by decide +kernel) (pa_cons (pe_fld (pv 0) rfl) pa_nil)) (pe_glob (v := .int 60) rfl g_MOST_BARS ⟨_, rfl⟩) (nomark _)) (pss_one (ps_raise rfl (takes_of rfl rfl rfl rfl) (pmk_own PySem.F.excBase_ValueError X.qM T.g_TooMany X.kM (raises_own X.bM X.tM) rfl))) pss_nil))))), ?_⟩
    have jv : (valD (jointsD F) (.inr n)).isSome = (F.barAt n).isSome := by
      rw [joints_val]
      cases F.barAt n <;> rfl
    have sv : ∀ z, (valD (spotsD F) (.inr z)).isSome = (F.pinAt z).isSome := fun z => by
      rw [spots_val]
      cases F.pinAt z <;> rfl
    refine (rs_seq (rs_if (et_B ((ed_din (k := .inr n) (ed_var rfl) (ed_joints T (ed_var rfl))).to (by rw [jv]))) (fun h => rs_bar (E := E) (ed_var rfl) (hE (.bar n) (by unfold askOf; rw [if_pos h]))) fun h1 => rs_next ?_) : RunS (sysOf K) H1 H _ (start0 ["self", "name", "one", "other", "pin"] [.frm F, .str n, .str x, .str y]) (fun o => askOf F n x y = none ∧ ∃ G, o = .nx G)) _ H1 H _ (Step.refl e) (env_start dv) ⟨fun G p σ' H2 H' st _ => hQ p.1 H2 H' st, (fun d p => by obtain ⟨_, _, p⟩ := p; cases p), (fun G p => by obtain ⟨_, _, p⟩ := p; cases p), (fun G p => by obtain ⟨_, _, p⟩ := p; cases p)⟩
    have ep : ∀ z, (F.pinAt z).isNone = !(F.pinAt z).isSome := fun z => by cases F.pinAt z <;> rfl
    refine rs_seq (rs_for_list (ds := [.str x, .str y]) (ed_lst (ea_cons (ed_var rfl) (ea_cons (ed_var rfl) ea_nil))) (fun k G => ∃ z, G = [some (.frm F), some (.str n), some (.str x), some (.str y), z] ∧ (1 ≤ k → (F.pinAt x).isSome = true) ∧ (2 ≤ k → (F.pinAt y).isSome = true)) ⟨_, rfl, fun h => by omega, fun h => by omega⟩ ?_ ?_)
    · rintro k d G hd ⟨z, rfl, z1, z2⟩
      match k, hd with
      | 0, hd =>
        cases hd
        refine ⟨_, tg_name, rs_if (et_B ((ed_dnotin (k := .inr x) (ed_var rfl) (ed_spots T (ed_var rfl))).to (by rw [sv]))) (fun h => rs_pin (E := E) (ed_var rfl) (hE (.pin x) ?_)) fun h => rs_next ⟨_, rfl, fun _ => by simpa using h, fun h => by omega⟩⟩
        unfold askOf
        rw [if_neg (by rw [h1]; decide), if_pos (by rw [ep]; exact h)]
      | 1, hd =>
        cases hd
        refine ⟨_, tg_name, rs_if (et_B ((ed_dnotin (k := .inr y) (ed_var rfl) (ed_spots T (ed_var rfl))).to (by rw [sv]))) (fun h => rs_pin (E := E) (ed_var rfl) (hE (.pin y) ?_)) fun h => rs_next ⟨_, rfl, fun _ => z1 (Nat.le_refl _), fun _ => by simpa using h⟩⟩
        unfold askOf
        rw [if_neg (by rw [h1]; decide), if_neg (by rw [ep, z1 (Nat.le_refl _)]; decide), if_pos (by rw [ep]; exact h)]
      | k + 2, hd => cases hd
    · rintro G ⟨z, rfl, z1, z2⟩
      have hx := z1 (Nat.le_of_ble_eq_true rfl)
      have hy := z2 (Nat.le_of_ble_eq_true rfl)
      refine rs_seq (rs_if (et_test (ed_op (ed_var rfl) (ed_var rfl) rv_eqS)) (fun h => rs_len (E := E) (ed_var rfl) (hE (.len n) ?_)) fun h3 => rs_next ?_)
      · unfold askOf
        rw [if_neg (by rw [h1]; decide), if_neg (by rw [ep, hx]; decide), if_neg (by rw [ep, hy]; decide), if_pos (of_decide_eq_true h)]
      · have el : (jointsD F).length = F.bars.length := by unfold jointsD; simp
        refine rs_if (et_test (ed_op (ed_cb (ea_cons (ed_joints T (ed_var rfl)) ea_nil) rc_lenD) ed_int rv_ge)) (fun h => rs_many (E := E) (hE .many ?_)) fun h4 => rs_next ⟨?_, _, rfl⟩
        · have := of_decide_eq_true h
          unfold askOf
          rw [if_neg (by rw [h1]; decide), if_neg (by rw [ep, hx]; decide), if_neg (by rw [ep, hy]; decide), if_neg (of_decide_eq_false h3), if_pos (by omega)]
        · have := of_decide_eq_false h4
          unfold askOf
          rw [if_neg (by rw [h1]; decide), if_neg (by rw [ep, hx]; decide), if_neg (by rw [ep, hy]; decide), if_neg (of_decide_eq_false h3), if_neg (by omega)]
end
end Ty
set_option Elab.async false
set_option linter.all false
set_option maxRecDepth 100000
set_option maxHeartbeats 4000000
/-! would_put. -/
namespace Ty
open PySem PySem.Spec PyProof.Rows L2
/-! the columns are good -/
theorem put_all {κ : Type} [DecidableEq κ] {P : Num → Prop} {l : List (κ × Num)} {k : κ} {q : Num} (h : ∀ p ∈ l, P p.2) (hq : P q) : ∀ p ∈ putD l k q, P p.2 := by
  intro p hp
  unfold putD at hp
  split at hp
  · obtain ⟨x, hx, rfl⟩ := List.mem_map.mp hp
    split
    · exact hq
    · exact h x hx
  · rcases List.mem_append.mp hp with hp | hp
    · exact h p hp
    · rw [List.mem_singleton.mp hp]
      exact hq
theorem draws_all {P : Num → Prop} : ∀ (dr : List Draw) (l : List (List Key × Num)), (∀ p ∈ l, P p.2) → (∀ w ∈ dr, P w.2.1 ∧ P w.2.2) → ∀ p ∈ dr.foldl putDraw l, P p.2
  | [], l, h, _ => h
  | w :: dr, l, h, h2 => by
    rw [List.foldl_cons]
    refine draws_all dr _ ?_ fun x hx => h2 x (List.mem_cons_of_mem _ hx)
    obtain ⟨a, b⟩ := h2 w List.mem_cons_self
    exact put_all (put_all h a) b
theorem valD_mem {κ α : Type} [DecidableEq κ] {l : List (κ × α)} {k : κ} {a : α} (h : valD l k = some a) : (k, a) ∈ l := by
  unfold valD at h
  cases e : l.find? (fun kv => decide (kv.1 = k)) with
  | none => rw [e] at h; cases h
  | some p =>
    rw [e] at h
    have h1 := List.mem_of_find?_eq_some e
    have h2 : p.1 = k := of_decide_eq_true (List.find?_some (p := fun kv : κ × α => decide (kv.1 = k)) e)
    have h3 : p.2 = a := Option.some.inj h
    rw [← h2, ← h3]
    exact h1
theorem col_good {n : Nat} {ps : List (List Key)} {dr : List Draw} (h : ∀ w ∈ dr, Good n w.2.1 ∧ Good n w.2.2) (hn : 1 ≤ n) : ∀ q ∈ colBy ps dr, Good n q := by
  intro q hq
  unfold colBy at hq
  obtain ⟨k, _, rfl⟩ := List.mem_map.mp hq
  cases e : valD (dr.foldl putDraw []) k with
  | none => exact ⟨sz_nought.le hn, by decide⟩
  | some a => exact draws_all (P := Good n) dr [] (fun p hp => by cases hp) h _ (valD_mem e)
theorem col_len (ps : List (List Key)) (dr : List Draw) : (colBy ps dr).length = ps.length := by
  unfold colBy
  simp
theorem pairs_len2 (F : Frm) : (pairsK F).length = 2 * F.pins.length := by
  unfold pairsK
  generalize F.pins = l
  induction l with
  | nil => rfl
  | cons a l ih =>
    rw [List.flatMap_cons, List.length_append, ih, List.length_cons]
    simp
    omega
theorem good_le {n m : Nat} {q : Num} (h : Good n q) (l : n ≤ m) : Good m q := ⟨h.1.le l, h.2⟩
theorem turn_good {n : Nat} {q : Num} (h : Good n q) : Good (n + 2) (turnOf q) := ⟨(sz_diff sz_nought h.1).le (by omega), diff_bot (by decide) (by have := h.2; omega)⟩
theorem wayCols_good {F : Frm} (ok : FrmOk F) : ∀ c ∈ wayCols F, c.length = 2 * F.pins.length ∧ ∀ q ∈ c, Good 131 q := by
  intro c hc
  unfold wayCols at hc
  obtain ⟨p, hp, hc⟩ := List.mem_flatMap.mp hc
  obtain ⟨w, hw, rfl⟩ := List.mem_map.mp hc
  refine ⟨by rw [col_len, pairs_len2], col_good (fun d hd => ?_) (by decide)⟩
  rw [List.mem_singleton.mp hd]
  obtain ⟨_, _, h⟩ := ok.gd p hp
  exact ⟨good_le (h w hw).1 (by decide), good_le (h w hw).2 (by decide)⟩
theorem barCol_good {F : Frm} (ok : FrmOk F) {x y : Str} {p q : Pin} (hp : F.pinAt x = some p) (hq : F.pinAt y = some q) : (barCol F x y (armOf F x y)).length = 2 * F.pins.length ∧ ∀ z ∈ barCol F x y (armOf F x y), Good 131 z := by
  obtain ⟨g1, g2⟩ := arm_good ok hp hq
  refine ⟨by unfold barCol; rw [col_len, pairs_len2], col_good (fun d hd => ?_) (by decide)⟩
  rcases List.mem_cons.mp hd with rfl | hd
  · exact ⟨good_le g1 (by decide), good_le g2 (by decide)⟩
  · rw [List.mem_singleton.mp hd]
    exact ⟨turn_good g1, turn_good g2⟩
def allCols (F : Frm) : List (List Num) := wayCols F ++ barCols F
def colOf (F : Frm) (x y : Str) : List Num := barCol F x y (armOf F x y)
theorem wayCols_le {F : Frm} (ok : FrmOk F) : (wayCols F).length ≤ 2 * F.pins.length := by
  unfold wayCols
  refine Nat.le_trans (flat_len _ 2 _ fun p hp => ?_) (by omega)
  rw [List.length_map]
  exact ok.wl p hp
theorem barCols_len (F : Frm) : (barCols F).length = F.bars.length := by
  unfold barCols
  simp
theorem cols_ok {F : Frm} (ok : FrmOk F) (h5 : F.pins.length ≤ 5) (hb : F.bars.length ≤ 20) {x y : Str} {p q : Pin} (hp : F.pinAt x = some p) (hq : F.pinAt y = some q) : ColOk F (allCols F) (colOf F x y) 131 := by
  have hl : (allCols F).length ≤ 30 := by
    unfold allCols
    rw [List.length_append, barCols_len]
    have := wayCols_le ok
    omega
  refine ⟨ok, h5, fun c hc => ?_, barCol_good ok hp hq, by omega, by omega⟩
  unfold allCols at hc
  rcases List.mem_append.mp hc with hc | hc
  · exact wayCols_good ok c hc
  · unfold barCols at hc
    obtain ⟨b, hb, rfl⟩ := List.mem_map.mp hc
    obtain ⟨⟨p1, hp1⟩, ⟨q1, hq1⟩⟩ := ok.be b hb
    exact barCol_good ok hp1 hq1
/-! enumerate, the owned thing at the end -/
section
variable {S : Sys} {i : Nat} {te : TE} {G : Gam} {w : Own} {t u : TS} {P : OutM → Prop}
theorem rm_for_enum {g : TG} {ds : List Dat} (hl : EvD S te G (.lst ds)) (I : Nat → Gam → Own → Prop) (h0 : I 0 G w)
    (hs : ∀ (k : Nat) (d : Dat) (G : Gam) (w : Own), ds[k]? = some d → I k G w → ∃ G', TgM S i g (.tup [.int (k : Int), d]) G G' ∧ RunM S i t G' w (TurnsM (I (k + 1)) P)) (hd : ∀ G w, I ds.length G w → P (.nx G w)) : RunM S i (tFor (iEnum S.K (tCons te tNil)) g t) G w P := fun σ H1 H Ds D e E a f => by
  unfold tFor iEnum
  refine (ea_cons hl ea_nil) σ H1 H e E _ fun H2 H' vs s dv => ?_
  obtain ⟨a1, m1⟩ := a.step s
  cases dv with
  | cons d1 t1 =>
    cases t1
    cases d1 with
    | @lst l xs _ ha hA =>
      refine ⟨l, xs, rfl, SqL.of (s.s2 _ _ ha), for_it walk_enum (fun j σ3 H3 => ∃ H4 G3 w3, StepM D H2 H' H4 H3 ∧ EnvD S H4 σ3 G3 ∧ AtO S i σ3 H4 H3 D w3 ∧ I j G3 w3) ⟨H2, G, w, StepM.refl s.s2 m1.nd, E.mono s.s1, a1, h0⟩ (fun j σ3 H3 _ ⟨H4, G3, w3, s3, _, _⟩ => SqL.of (s3.s2 _ _ (s3.s1 _ _ ha))) ?_ ?_⟩
      · rintro j x σ3 H3 H3' hj ⟨H4, G3, w3, s3, E3, a3, i3⟩ ⟨T, x, y, rfl, hT, rfl, hx1, hy1⟩
        dsimp only at hx1 hy1
        obtain rfl := Option.some.inj hx1
        obtain ⟨d, hd', hv⟩ := hA.getV hy1
        obtain ⟨G', tg, rb⟩ := hs j d G3 w3 hd' i3
        have st := Step.new (o := .tup [V.int (j : Nat), y]) s3.s2 hT
        obtain ⟨A4, m4⟩ := a3.step st
        refine tg (.ref T) σ3 _ _ st.s2 (E3.mono st.s1) (.tup (SqT.of upd_same) (.cons (.int _) (.cons ((hv.mono s3.s1).mono st.s1) .nil))) _ fun σ4 E4 e4 => ?_
        exact rb σ4 _ _ _ D st.s2 E4 (A4.slot e4) (FinM.turns ((m1.trans s3).trans m4) f fun G5 w5 i5 σ5 H5 H5' s5 E5 a5 => ⟨H5, G5, w5, (s3.trans m4).trans s5, E5, a5, i5⟩)
      · rintro σ3 H3 ⟨H4, G3, w3, s3, E3, a3, i3⟩
        rw [hA.length] at i3
        exact f.nx G3 w3 (hd G3 w3 i3) σ3 H4 H3 (m1.trans s3) E3 a3
def RunMZ (S : Sys) (i : Nat) (ts : TS) (G : Gam) (w : Own) (R : Hp → Hp → V → Hp → Prop) : Prop := ∀ σ Hs H0 H1 H Ds D, Step Hs H0 H1 H → H0 D = none → EnvD S H1 σ G → AtO S i σ H1 H D w → (∀ v H', R Hs H0 v H' → Ds.rt v H') → ts Ds σ H
variable {R : Hp → Hp → V → Hp → Prop}
theorem rz_open (h : NewO S te G w) (hi : i < G.length) (hb : RunMZ S i u (G.set i none) w R) : RunZ S (tSeq (tAsg te (gName i)) u) G R := fun σ H1 H Ds e E q =>
  h σ H1 H e E _ fun H2 H' D o s hD hn ho hw =>
    hb (σ.set i (some (.ref D))) H1 H H2 H' Ds D s hD (E.mono s.s1).setN ⟨List.getElem?_set_self (by rw [E.len]; exact hi), hn, o, ho, hw⟩ q
theorem mz_seq (h : RunM S i t G w (fun o => match o with | .nx G' w' => RunMZ S i u G' w' R | _ => False)) : RunMZ S i (tSeq t u) G w R := fun σ Hs H0 H1 H Ds D st hD E a q =>
  h σ H1 H { Ds with nx := u Ds } D st.s2 E a ⟨fun G' w' r σ' H2 H' m E' a' => r σ' Hs H0 H2 H' Ds D (step_ownM st m hD) hD E' a' q, fun _ p => p.elim, fun _ _ p => p.elim, fun _ _ p => p.elim⟩
end
theorem rv_notN {S : Sys} {x : Dat} {b : Bool} (h : ∀ H v, Dt S H v x → (!decide (v = .non)) = b) : RvD S (fun x y H Q => y = .non ∧ Q (.bl (!decide (x = .non))) H) x .non (.bl b) := rv_now fun H1 H u v e a c Q q => by
  cases c
  refine ⟨rfl, ?_⟩
  rw [h H1 u a]
  exact q _ (.bl _)
theorem rv_isN {S : Sys} {x : Dat} {b : Bool} (h : ∀ H v, Dt S H v x → decide (v = .non) = b) : RvD S (fun x y H Q => y = .non ∧ Q (.bl (decide (x = .non))) H) x .non (.bl b) := rv_now fun H1 H u v e a c Q q => by
  cases c
  refine ⟨rfl, ?_⟩
  rw [h H1 u a]
  exact q _ (.bl _)
theorem ed_meth_raw {S : Sys} {sp : Sp} {E0 : XK} {te : TE} {ta : TA} {ds : List Dat} {F : Frm} {m : Str} {G : Gam} (ho : EvD S te G (.frm F)) (h : EvA S ta G ds) (h1 : ¬ m = "spots") (h2 : ¬ m = "kept") (h3 : ¬ m = "joints") :
    ∀ σ H1 H, Same H1 H → EnvD S H1 σ G → ∀ Q : VK, (∀ H2 H' vs, Step H1 H H2 H' → DtA S H2 vs (.frm F :: ds) → sp vs H' Q E0) → tMeth S.CF m sp [] E0 te ta σ H Q := fun σ H1 H e E Q q => by
  refine ho σ H1 H e E _ fun H2 H' v s dv => ?_
  cases dv with
  | @frm a dx sp k j F _ _ _ q0 q1 q2 q3 a1 a2 a3 =>
    refine ⟨a, dx, _, rfl, s.s2 _ _ q0, fflds_no h1 h2 h3, ?_⟩
    refine h σ H2 H' s.s2 (E.mono s.s1) _ fun H3 H'' vs s2 dvs => ?_
    rw [List.append_nil]
    exact q H3 H'' _ (s.trans s2) (.cons ((Dt.frm q0 q1 q2 q3 a1 a2 a3).mono s2.s1) dvs)
theorem ta_cons {te : TE} {tr : TA} {σ : L2.St} {H : Hp} {Q : List V → Hp → Prop} (h : te σ H fun v H1 => tr σ H1 fun vs H2 => Q (v :: vs) H2) : tCons te tr σ H Q := h
theorem ta_call {sp : Sp} {E : XK} {ta : TA} {σ : L2.St} {H : Hp} {Q : VK} (h : ta σ H fun vs H1 => sp (vs ++ []) H1 Q E) : tCall sp [] E ta σ H Q := h
theorem raw_drop {te : TE} {u : TS} {Ds : Ends} {σ : L2.St} {H : Hp} (h : te σ H fun _ H' => u Ds σ H') : tSeq (tDrop te) u Ds σ H := h
theorem RunZ.use {S : Sys} {ts : TS} {G : Gam} {R : Hp → Hp → V → Hp → Prop} {σ : L2.St} {H1 H : Hp} {Ds : Ends} (h : RunZ S ts G R) (e : Same H1 H) (E : EnvD S H1 σ G) (q : ∀ v H', R H1 H v H' → Ds.rt v H') : ts Ds σ H := h σ H1 H Ds e E q
theorem rz_callZ {S : Sys} {ι : Type} {Pre : ι → List Dat → Prop} {Post : ι → Hp → Hp → V → Hp → Prop} {E0 : XK} {ta : TA} {ds : List Dat} {g : TG} {u : TS} {G : Gam} {R : Hp → Hp → V → Hp → Prop} (j : ι) (ha : EvA S ta G ds) (hp : Pre j ds)
    (h : ∀ σ Hs H0 H1 H v H', Step Hs H0 H1 H → EnvD S H1 σ G → Post j H1 H v H' → ∀ Ds : Ends, (∀ v H', R Hs H0 v H' → Ds.rt v H') → g v σ H' fun σ' H'' => u Ds σ' H'') :
    RunZ S (tSeq (tAsg (tCall (spZ S Pre Post) [] E0 ta) g) u) G R := fun σ H1 H Ds e E q =>
  ha σ H1 H e E _ fun H2 H' vs s dv => ⟨H2, ds, j, s.s2, by rw [List.append_nil]; exact dv, hp, fun v H'' p => h σ H1 H H2 H' v H'' s (E.mono s.s1) p Ds q⟩
/-! what is told -/
inductive TR where
  | mot (m : List (Key × Dat)) | spa (p : List (Key × Dat)) (q : List (Str × List Dat))
def ToldAt (S : Sys) (r : TR) (H1 H : Hp) (v : V) (H' : Hp) : Prop := match r with
  | .mot m => ∃ H2 D o, Step H1 H H2 H' ∧ H D = none ∧ H2 D = none ∧ H' D = some o ∧ OwnAt S H2 o (.K m) ∧ Dt S H2 v (.tup [.str "stiffer", .ptr D])
  | .spa p k => ∃ H2 D1 o D2 ls, Step H1 H H2 H' ∧ H D1 = none ∧ H2 D1 = none ∧ H' D1 = some o ∧ OwnAt S H2 o (.K p) ∧ Pushed S H H2 H' D2 ls k ∧ ¬ D1 ∈ D2 :: ls ∧ Dt S H2 v (.tup [.str "spare", .ptr D1, .ptr D2])
theorem Pushed.back {S : Sys} {H0 Hc H2 H' : Hp} {D : Addr} {ls : List Addr} {kls : List (Str × List Dat)} (e : Same H0 Hc) (p : Pushed S Hc H2 H' D ls kls) : Pushed S H0 H2 H' D ls kls :=
  ⟨p.nd, fun a ha => ⟨e.free (p.fr a ha).1, (p.fr a ha).2⟩, p.dk, p.len, p.it⟩
theorem told_stable {S : Sys} (r : TR) : Stable (ToldAt S r) := fun H1 H Ha Hb v H' s p => by
  cases r with
  | mot m =>
    obtain ⟨H2, D, o, s2, h1, h2⟩ := p
    exact ⟨H2, D, o, s.trans s2, s.s3.free h1, h2⟩
  | spa p k =>
    obtain ⟨H2, D1, o, D2, ls, s2, h1, h2, h3, h4, h5, h6⟩ := p
    exact ⟨H2, D1, o, D2, ls, s.trans s2, s.s3.free h1, h2, h3, h4, h5.back s.s3, h6⟩
def nilBar : Str × Str × Str := ("", "", "")
def pullsOf (F : Frm) (n : Str) (ns : List Num) : List (Str × Num) := ((List.range F.bars.length).map fun k => ((F.bars.getD k nilBar).1, ns.getD ((wayCols F).length + k) (0, 1))) ++ [(n, (1, 1))]
def kD (l : List (Str × Num)) : List (Key × Dat) := l.map fun p => ((Sum.inr p.1 : Key), num p.2)
def tellOf (F : Frm) (n x y : Str) : TR :=
  let s := solOf F (allCols F) (colOf F x y)
  if s.1 = true then .mot (motionK F (turned s.2)) else .spa (kD (pullsOf F n (turned s.2))) (kdD (pushesOf F ((turned s.2).take (wayCols F).length)))
section
variable {Pr : Program} {w : World} {K : PySem.W.Frag} {mg : Str → Option Value} {base : Heap}
def Sp_would (K : PySem.W.Frag) : Sp := fun vs H Q E => ∃ H1 F n x y, Same H1 H ∧ DtA (sysOf K) H1 vs [.frm F, .str n, .str x, .str y] ∧ FrmOk F ∧ F.pins.length ≤ 5 ∧ (askOf F n x y = none → F.bars.length ≤ 20 ∧ ∀ v H', ToldAt (sysOf K) (tellOf F n x y) H1 H v H' → Q v H') ∧ ∀ e, askOf F n x y = some e → ∀ H2 H' c d, Step H1 H H2 H' → ErrAt K e c d H' → E c d H'
theorem ask_none {F : Frm} {n x y : Str} (h : askOf F n x y = none) : (F.barAt n) = none ∧ (∃ p, F.pinAt x = some p) ∧ (∃ q, F.pinAt y = some q) ∧ x ≠ y ∧ F.bars.length < 60 := by
  unfold askOf at h
  split at h
  · cases h
  · split at h
    · cases h
    · split at h
      · cases h
      · split at h
        · cases h
        · split at h
          · cases h
          · rename_i h1 h2 h3 h4 h5
            refine ⟨by simpa using h1, ?_, ?_, h4, by omega⟩
            · cases e : F.pinAt x with
              | none => rw [e] at h2; exact absurd rfl h2
              | some p => exact ⟨p, rfl⟩
            · cases e : F.pinAt y with
              | none => rw [e] at h3; exact absurd rfl h3
              | some p => exact ⟨p, rfl⟩
theorem ok_would_put (T : Txt K mg) (B : Bas Pr base) (X : Exq K) : FnOk Pr w K mg base (L2.CX Pr w) 47 (He.ga K "would_put") (fdAt K (He.ga K "would_put")) ["frame", "name", "one", "other"] (Sp_would K) := by
  refine FunD.ok T.F_would_put sc_would_put (fun vs H Q E h => ?_) (fun cdv A outer s H vs Q E hr h => ?_)
  · obtain ⟨H1, F, n, x, y, _, dv, _⟩ := h
    exact dv.length
  · obtain ⟨H1, F, n, x, y, e, dv, ok, h5, hQ, hE⟩ := h
    refine ⟨_, pss_cons (ps_expr (pe_meth (pv 0) T.cl_Frame T.m_Frame_ask_bar (ok_Frame_ask_bar T B X) (hr.mono (by decide)) T.b_Frame_ask_bar .nil (passes_call (E := E) (takes_of (E := E) rfl rfl rfl rfl) fun _ _ _ _ h => h) (pa_cons (pv 1) (pa_cons (pv 2) (pa_cons (pv 3) pa_nil))))) (PSs.nox (pss_cons (ps_set (i := 4) (sc_would_put).nd rfl (Or.inl rfl) (pe_meth (pv 0) T.cl_Frame T.m_Frame_place (ok_Frame_place T B) (hr.mono (by decide)) T.b_Frame_place .nil pass0 (pa_cons (pv 2) pa_nil))) (pss_cons (ps_set (i := 5) (sc_would_put).nd rfl (Or.inl rfl) (pe_meth (pv 0) T.cl_Frame T.m_Frame_place (ok_Frame_place T B) (hr.mono (by decide)) T.b_Frame_place .nil pass0 (pa_cons (pv 3) pa_nil))) (pss_cons (ps_set (i := 6) (sc_would_put).nd rfl (Or.inl rfl) (pe_tup (pa_cons (pe_call (ok_difference_of T B) (hr.mono (by decide)) rfl T.g_difference_of T.F_difference_of.kp T.b_difference_of .nil pass0 (pa_cons (pe_ix ix_tup (pv 5) pe_int (fun _ _ => rfl)) (pa_cons (pe_ix ix_tup (pv 4) pe_int (fun _ _ => rfl)) pa_nil))) (pa_cons (pe_call (ok_difference_of T B) (hr.mono (by decide)) rfl T.g_difference_of T.F_difference_of.kp T.b_difference_of .nil pass0 (pa_cons (pe_ix ix_tup (pv 5) pe_int (fun _ _ => rfl)) (pa_cons (pe_ix ix_tup (pv 4) pe_int (fun _ _ => rfl)) pa_nil))) pa_nil)))) (pss_cons (ps_set (i := 7) (sc_would_put).nd rfl (Or.inl rfl) (pe_op op_cat (pe_call (ok_way_columns T B) (hr.mono (by decide)) rfl T.g_way_columns T.F_way_columns.kp T.b_way_columns .nil pass0 (pa_cons (pv 0) pa_nil)) (pe_call (ok_bar_columns T B) (hr.mono (by decide)) rfl T.g_bar_columns T.F_bar_columns.kp T.b_bar_columns .nil pass0 (pa_cons (pv 0) pa_nil)))) (pss_cons (ps_asg (pe_call (ok_column_told T B) (hr.mono (by decide)) rfl T.g_column_told T.F_column_told.kp T.b_column_told .nil pass0 (pa_cons (pv 0) (pa_cons (pv 7) (pa_cons (pe_call (ok_bar_column T B) (hr.mono (by decide)) rfl T.g_bar_column T.F_bar_column.kp T.b_bar_column .nil pass0 (pa_cons (pv 0) (pa_cons (pv 2) (pa_cons (pv 3) (pa_cons (pv 6) pa_nil))))) pa_nil)))) (pg_tup rfl (pgs_cons (pg_name (i := 8) (sc_would_put).nd rfl (Or.inl rfl)) (pgs_cons (pg_name (i := 9) (sc_would_put).nd rfl (Or.inl rfl)) pgs_nil)))) (pss_cons (ps_if (pt_cmpR op_isN (pv 9) pe_non (nomark _)) (pss_one (ps_ret (pe_tup (pa_cons pe_str (pa_cons (pv 8) pa_nil))))) pss_nil) (pss_cons (ps_set (i := 10) (sc_would_put).nd rfl (Or.inl rfl) (pe_op op_sub (pe_callB call_len_seq (by rfl) T.n_len (by decide +kernel) (pa_cons (pv 7) pa_nil)) (pe_callB call_len_seq (by rfl) T.n_len (by decide +kernel) (pa_cons (pe_meth0 (pv 0) T.cl_Frame T.m_Frame_bars (ok_Frame_bars T B) (hr.mono (by decide)) T.b_Frame_bars .nil pass0) pa_nil)))) (pss_cons (ps_set (i := 11) (sc_would_put).nd rfl (Or.inl rfl) pe_dnewK) (pss_cons (ps_for PassesOwn.never rfl (pi_enum (by rfl) T.n_enumerate (pa_cons (pe_meth0 (pv 0) T.cl_Frame T.m_Frame_bars (ok_Frame_bars T B) (hr.mono (by decide)) T.b_Frame_bars .nil pass0) pa_nil)) (pg_tup rfl (pgs_cons (pg_name (i := 12) (sc_would_put).nd rfl (Or.inl rfl)) (pgs_cons (pg_name (i := 13) (sc_would_put).nd rfl (Or.inl rfl)) pgs_nil))) (pss_one (ps_dput (hu_of hr) (pv 11) (pv 13) (pe_ix ix_list (pv 9) (pe_op op_add (pv 10) (pv 12)) (fun _ _ => rfl)) rfl))) (pss_cons (ps_dput (hu_of hr) (pv 11) (pv 1) (pe_glob (v := .ref _) rfl T.g_ONE rfl) rfl) (pss_one (ps_ret (pe_tup (pa_cons pe_str (pa_cons (pv 11) (pa_cons (pe_call (ok_pushes_by T B) (hr.mono (by decide)) rfl T.g_pushes_by T.F_pushes_by.kp T.b_pushes_by .nil pass0 (pa_cons (pv 0) (pa_cons (pe_slice sl_list (pv 9) po_none (po_some (pv 10))) pa_nil))) pa_nil))))))))))))))))), ?_⟩
    refine raw_drop (ed_meth_raw (ed_var (i := 0) rfl) (ea_cons (ed_var (i := 1) rfl) (ea_cons (ed_var (i := 2) rfl) (ea_cons (ed_var (i := 3) rfl) ea_nil))) (by decide +kernel) (by decide +kernel) (by decide +kernel) _ H1 H e (env_start dv) _ fun H2 H' vs s dvs => ?_)
    refine ⟨H2, F, n, x, y, s.s2, dvs, fun ha H3 H'' s3 => ?_, fun er he H3 H'' c d s3 hd => hE er he H3 H'' c d (s.trans s3) hd⟩
    obtain ⟨hb20, hq⟩ := hQ ha
    have st := s.trans s3
    refine RunZ.use (G := start0 ["frame", "name", "one", "other", "here", "there", "arm", "columns", "motion", "numbers", "ways", "pulls", "k", "bar"] [.frm F, .str n, .str x, .str y]) (R := ToldAt (sysOf K) (tellOf F n x y)) ?_ st.s2 ((env_start dv).mono st.s1) fun v H4 p => hq v H4 (told_stable _ _ _ _ _ _ _ st p)
    · obtain ⟨hnb, ⟨p, hp⟩, ⟨q, hq⟩, hxy, _⟩ := ask_none ha
      have cok := cols_ok ok h5 hb20 hp hq
      obtain ⟨gpx, gpy, _⟩ := ok.gd p (pinAt_mem hp).1
      obtain ⟨gqx, gqy, _⟩ := ok.gd q (pinAt_mem hq).1
      have sR := told_stable (S := sysOf K) (tellOf F n x y)
      obtain ⟨ga1, ga2⟩ := arm_good ok hp hq
      refine rz_seq sR (rd_set (ed_meth (ed_var rfl) (ea_cons (ed_var rfl) ea_nil) ⟨F, x, p, rfl, hp, rfl⟩) ?_)
      refine rz_seq sR (rd_set (ed_meth (ed_var rfl) (ea_cons (ed_var rfl) ea_nil) ⟨F, y, q, rfl, hq, rfl⟩) ?_)
      have e1 : ∀ {i : Nat} {r : Pin} {G : Gam}, G[i]? = some (some (spotD r)) → EvD (sysOf K) (tOp (rIxT K) (tVar i) (tC (.int 0))) G (num r.x) := fun h => ed_op (ed_var h) ed_int (rv_ixT (ds := [num _, num _]) rfl)
      have e2 : ∀ {i : Nat} {r : Pin} {G : Gam}, G[i]? = some (some (spotD r)) → EvD (sysOf K) (tOp (rIxT K) (tVar i) (tC (.int 1))) G (num r.y) := fun h => ed_op (ed_var h) ed_int (rv_ixT (ds := [num _, num _]) rfl)
      refine rz_seq sR (rd_set (d := way (armOf F x y)) ((ed_tup (ea_cons (ed_call (ea_cons (e1 (r := q) rfl) (ea_cons (e1 (r := p) rfl) ea_nil)) ⟨q.x, p.x, 64, 64, rfl, by have := gqx.2; omega, by have := gpx.2; omega, gqx.1, gpx.1, by decide, rfl⟩)
        (ea_cons (ed_call (ea_cons (e2 (r := q) rfl) (ea_cons (e2 (r := p) rfl) ea_nil)) ⟨q.y, p.y, 64, 64, rfl, by have := gqy.2; omega, by have := gpy.2; omega, gqy.1, gpy.1, by decide, rfl⟩) ea_nil))).to ?_) ?_)
      · unfold armOf
        rw [pin_of hp, pin_of hq]
        rfl
      have wl := wayCols_le ok
      have bl := barCols_len F
      have h24 := ok.pl
      have h60 := ok.bl
      refine rz_seq sR (rd_set (d := colsD (allCols F)) ((ed_cat (ds := (wayCols F).map colD) (es := (barCols F).map colD) (ed_call (ea_cons (ed_var rfl) ea_nil) ⟨F, rfl, ok, rfl⟩) (ed_call (ea_cons (ed_var rfl) ea_nil) ⟨F, rfl, ok, rfl⟩) (by rw [List.length_map, List.length_map]; omega)).to ?_) ?_)
      · unfold allCols colsD
        rw [List.map_append]
      have hmc : EvA (sysOf K) _ [some (.frm F), some (.str n), some (.str x), some (.str y), some (spotD p), some (spotD q), some (way (armOf F x y)), some (colsD (allCols F)), none, none, none, none, none, none] [.frm F, colsD (allCols F), colD (colOf F x y)] :=
        ea_cons (ed_var (i := 0) rfl) (ea_cons (ed_var (i := 7) rfl) (ea_cons (ed_call (R := R_bar_column) (E0 := E0) (ea_cons (ed_var (i := 0) rfl) (ea_cons (ed_var (i := 2) rfl) (ea_cons (ed_var (i := 3) rfl) (ea_cons (ed_var (i := 6) rfl) ea_nil)))) ⟨F, x, y, armOf F x y, rfl, h24, ga1.1.le (by decide), ga2.1.le (by decide), by have := ga1.2; omega, by have := ga2.2; omega, rfl⟩) ea_nil))
      refine rz_callZ (F, allCols F, colOf F x y) hmc ⟨rfl, 131, cok⟩ ?_
      intro σ Hs H0 H1 H v H' st E1 post Ds q'
      have hN : (solOf F (allCols F) (colOf F x y)).1 = false → (turned (solOf F (allCols F) (colOf F x y)).2).length = (wayCols F).length + F.bars.length := fun hz => by
        unfold turned
        rw [List.length_map]
        have h1 := (solve_good cok.solve).2.2 hz
        have h2 : (solOf F (allCols F) (colOf F x y)).2.length = (allCols F).length := h1
        rw [h2]
        unfold allCols
        rw [List.length_append, bl]
      have htell : tellOf F n x y = if (solOf F (allCols F) (colOf F x y)).1 = true then .mot (motionK F (turned (solOf F (allCols F) (colOf F x y)).2)) else .spa (kD (pullsOf F n (turned (solOf F (allCols F) (colOf F x y)).2))) (kdD (pushesOf F ((turned (solOf F (allCols F) (colOf F x y)).2).take (wayCols F).length))) := rfl
      unfold Post_column_told at post
      dsimp only at post
      revert post hN htell
      generalize solOf F (allCols F) (colOf F x y) = so
      generalize turned so.2 = ns
      intro post hN htell
      rcases post with ⟨hz, H2, D, o, s2, hD, hn, ho, hw, dv⟩ | ⟨hz, H2, s2, dv⟩
      · rw [if_pos hz] at htell
        refine tg_tup (ds := [.ptr D, .non]) (tgs_cons tg_name (tgs_cons tg_name tgs_nil)) rfl v σ H2 H' s2.s2 (E1.mono s2.s1) dv _ fun σ3 E3 => ?_
        refine RunZ.use (R := fun Ha Hb v Hc => ∃ H3, Step Ha Hb H3 Hc ∧ Dt (sysOf K) H3 v (.tup [.str "stiffer", .ptr D])) (rz_if (fun H1 H Ha Hb v H' s p => by obtain ⟨H3, s3, d3⟩ := p; exact ⟨H3, s.trans s3, d3⟩) (b := true) (et_test (ed_op (ed_var rfl) ed_non (rv_isN fun H v h => by cases h; rfl))) (fun _ => rz_ret (ed_tup (ea_cons ed_str (ea_cons (ed_var rfl) ea_nil))) fun H1 H H2 H' v s dv => ⟨H2, s, dv⟩) (fun h => by cases h)) s2.s2 E3 ?_
        rintro v4 H4 ⟨H5, s5, d5⟩
        refine q' v4 H4 ?_
        rw [htell]
        exact ⟨H5, D, o, (st.trans s2).trans s5, st.s3.free hD, step_none s5 hn ho, s5.s3 _ _ ho, hw.mono s5.s1, d5⟩
      · have hN := hN hz
        rw [if_neg (by rw [hz]; decide)] at htell
        refine tg_tup (ds := [.non, colD ns]) (tgs_cons tg_name (tgs_cons tg_name tgs_nil)) rfl v σ H2 H' s2.s2 (E1.mono s2.s1) dv _ fun σ3 E3 => ?_
        refine RunZ.use (R := ToldAt (sysOf K) (tellOf F n x y)) ?_ s2.s2 E3 fun v H4 p => q' v H4 (told_stable _ _ _ _ _ _ _ (st.trans s2) p)
        rw [htell]
        have sR := told_stable (S := sysOf K) (.spa (kD (pullsOf F n ns)) (kdD (pushesOf F (ns.take (wayCols F).length))))
        refine rz_if sR (b := false) (et_test (ed_op (ed_var rfl) ed_non (rv_isN fun H v h => by cases h; rfl))) (fun h => by cases h) fun _ => ?_
        refine rz_seq sR (rd_set (d := .int ((wayCols F).length : Int)) ((ed_op (ed_cb (ea_cons (ed_var rfl) ea_nil) rc_lenCols) (ed_cb (ea_cons (ed_meth (ed_var rfl) ea_nil ⟨F, rfl, rfl⟩) ea_nil) rc_lenL) rv_sub).to ?_) ?_)
        · rw [List.length_map]
          have : (allCols F).length = (wayCols F).length + F.bars.length := by unfold allCols; rw [List.length_append, bl]
          rw [this]
          congr 1
          omega
        refine rz_open new_K (Nat.le_of_ble_eq_true rfl) ?_
        refine mz_seq (rm_for_enum (ds := F.bars.map fun b => .str b.1) (ed_meth (ed_var rfl) ea_nil ⟨F, rfl, rfl⟩) (fun k G w => ∃ x12 x13, G = [some (.frm F), some (.str n), some (.str x), some (.str y), some (spotD p), some (spotD q), some (way (armOf F x y)), some (colsD (allCols F)), some .non, some (colD ns), some (.int ((wayCols F).length : Int)), none, x12, x13] ∧ w = .K (kD ((pullsOf F n ns).take k))) ⟨_, _, rfl, rfl⟩ ?_ ?_)
        · rintro k d G w hd ⟨x12, x13, rfl, rfl⟩
          obtain ⟨b, hbk, rfl⟩ := map_get hd
          have hkl := (List.getElem?_eq_some_iff.mp hbk).1
          have pg : (pullsOf F n ns)[k]? = some (b.1, ns.getD ((wayCols F).length + k) (0, 1)) := by
            unfold pullsOf
            rw [List.getElem?_append_left (by simpa using hkl), List.getElem?_map, List.getElem?_range hkl]
            show some ((F.bars.getD k nilBar).1, _) = _
            rw [getD_of hbk]
          refine ⟨_, tm_tup (ds := [.int (k : Int), .str b.1]) (tms_cons (tm_name (by decide)) (tms_cons (tm_name (by decide)) tms_nil)), ?_⟩
          refine rm_dput (k := .inr b.1) (d := num (ns.getD ((wayCols F).length + k) (0, 1))) (EvD.l (ed_op (ed_var rfl) (ed_op (ed_var rfl) (ed_var rfl) rv_add) (rv_ixL (num_at (by omega) (by omega))))) (ed_var rfl) ?_ ⟨_, _, rfl, ?_⟩
          · unfold kD
            rw [List.length_map, List.length_take]
            omega
          · rw [take_more pg]
            unfold kD
            rw [putD_new, List.map_append]
            · rfl
            · intro m
              rw [List.map_map] at m
              obtain ⟨z, hz1, hz2⟩ := List.mem_map.mp m
              obtain ⟨j, hj⟩ := List.mem_iff_getElem?.mp hz1
              have hjl := (List.getElem?_eq_some_iff.mp hj).1
              rw [List.length_take] at hjl
              rw [List.getElem?_take_of_lt (by omega)] at hj
              unfold pullsOf at hj
              rw [List.getElem?_append_left (by simp; omega)] at hj
              obtain ⟨j', hj', rfl⟩ := map_get hj
              rw [List.getElem?_range (by omega)] at hj'
              cases hj'
              have he : (F.bars.getD j nilBar).1 = b.1 := by
                have : (Sum.inr (F.bars.getD j nilBar).1 : Key) = Sum.inr b.1 := hz2
                simpa using this
              have hjl2 : j < F.bars.length := by omega
              have n1 : (F.bars.map (·.1))[j]? = some b.1 := by
                rw [List.getElem?_map, List.getElem?_eq_getElem hjl2]
                rw [List.getD_eq_getElem?_getD, List.getElem?_eq_getElem hjl2] at he
                exact congrArg some he
              have n2 : (F.bars.map (·.1))[k]? = some b.1 := by
                rw [List.getElem?_map, hbk]
                rfl
              have := (List.getElem?_inj (by rw [List.length_map]; exact hjl2) ok.bn).mp (n1.trans n2.symm)
              omega
        · rintro G w ⟨x12, x13, rfl, rfl⟩
          rw [List.length_map]
          refine mz_seq (rm_dput (k := .inr n) (d := num (1, 1)) (EvD.l (ed_ONE T)) (ed_var rfl) ?_ ?_)
          · unfold kD
            rw [List.length_map, List.length_take]
            omega
          · have epu : putD (kD ((pullsOf F n ns).take F.bars.length)) (Sum.inr n) (num (1, 1)) = kD (pullsOf F n ns) := by
              have e1 : (pullsOf F n ns).take F.bars.length = (List.range F.bars.length).map fun k => ((F.bars.getD k nilBar).1, ns.getD ((wayCols F).length + k) (0, 1)) := by
                unfold pullsOf
                rw [List.take_append_of_le_length (by simp), List.take_of_length_le (by simp)]
              rw [e1, putD_new]
              · unfold kD pullsOf
                rw [List.map_append]
                rfl
              · intro m
                unfold kD at m
                rw [List.map_map, List.map_map] at m
                obtain ⟨j, hj, hz2⟩ := List.mem_map.mp m
                have hjl := List.mem_range.mp hj
                have he : (F.bars.getD j nilBar).1 = n := by
                  have : (Sum.inr (F.bars.getD j nilBar).1 : Key) = Sum.inr n := hz2
                  simpa using this
                have hm : F.bars.getD j nilBar ∈ F.bars := getD_mem hjl
                have := barAt_of ok.bn hm
                rw [he, hnb] at this
                cases this
            rw [epu]
            intro σ5 Hs5 H05 H5 H5' Ds5 D5 st5 hD5 E5 a5 q5
            refine ⟨_, a5.sl, ?_⟩
            refine ta_cons (ta_call ((ea_cons (ed_var (i := 0) rfl) (ea_cons (ed_sl (ds := ns.map num) (te := tVar 9) (ed_var rfl) eo_none (eo_some (te := tVar 10) (n := ((wayCols F).length : Int)) (ed_var rfl))) ea_nil)) σ5 H5 H5' st5.s2 E5 _ fun H6 H6' vs s6 dv6 => ?_))
            obtain ⟨a6, m6⟩ := a5.step s6
            obtain ⟨_, ap6, o6, ho6, hw6⟩ := a6
            refine ⟨H6, _, (F, ns.take (wayCols F).length), s6.s2, by rw [List.append_nil]; exact dv6, ⟨?_, ok⟩, ?_⟩
            · dsimp only
              rw [cut_to]
              unfold colD
              rw [List.map_take]
            · rintro v7 H7' ⟨H7, D2, ls, rfl, s7, pu⟩
              have st7 := (st5.trans s6).trans s7
              have n7 := step_none s7 ap6 ho6
              have h7 := s7.s3 _ _ ho6
              refine ⟨Nat.le_of_ble_eq_true rfl, fun p7 hp7 => q5 _ _ ?_⟩
              have st8 := Step.new (o := .tup [.str "spare", .ref D5, .ref D2]) s7.s2 hp7
              refine ⟨upd H7 p7 (.tup [.str "spare", .ref D5, .ref D2]), D5, o6, D2, ls, st7.trans st8, hD5, step_none st8 n7 h7, st8.s3 _ _ h7, hw6.mono (s7.s1.trans st8.s1), (pu.step st8).back (st5.trans s6).s3, ?_, .tup (SqT.of upd_same) (.cons (.str _) (.cons (.ptr _) (.cons (.ptr _) .nil)))⟩
              intro m
              have := (pu.fr _ m).1
              rw [this] at ho6
              cases ho6
end
end Ty
set_option Elab.async false
set_option linter.all false
set_option maxRecDepth 100000
set_option maxHeartbeats 4000000
/-! Rules that the hand layer lacks: isinstance of a caught error that has fields; several clauses 'except X as e'. -/
namespace PySem.W
open PySem PySem.Spec PySem.Calls PyProof.Rows
section
variable {prog : Program} {w : World} {A : Around} {E : Value → Shared → Prop} {s : Shared} {K : Frag} {x D : Addr} {ox od : Obj}
theorem ty_classE {Q : Option Value → Shared → Prop} (hga : findIn K (.ref D) "__getattribute__" = some (some (.builtin "BaseException.__getattribute__"))) (hgt : findIn K (.ref D) "__getattr__" = some none) (hsub : subIn K (.ref D) (.type "BaseException") = some true)
    (hdct : hasDictIn K D = true) (ha : findIn K (.ref D) "__class__" = some (some (.builtin "object.__class__")))
    (hn : specialIn K (.builtin "object.__class__") "__get__" = some (some (.builtin "getset_descriptor.__get__"))) (htk : takesIn K (.builtin "object.__class__") = some true) (hm : mroIn K D (.type "object") = some true)
    (X : K.In s.heap) (I : InstAt s.heap x ox D (some od)) (h : Q (some (.ref D)) { s with toks := s.toks + 1 }) : wpAny (model prog w) A (getAttr? (.ref x) "__class__") Q E s := by
  have hf : findObj K D (some od) "__class__" = some (.bind (.builtin "getset_descriptor.__get__") (.builtin "object.__class__")) := findObj_data (by obtain ⟨cd, hc, _⟩ := any_some hdct; rw [hc]; rfl) ha hn htk
  obtain ⟨hp, g, d, t, os⟩ := s
  have L0 := I.type (M := model prog w)
  have L1 := looks_findIn (M := model prog w) X hga
  have L2 := looks_findIn (M := model prog w) X hgt
  have L3 := looks_find (M := model prog w) X I hf
  have sub : Looks (model prog w) hp (isInstance (.ref x) (.type "BaseException")) true := L0.andThen (looks_subIn X hsub)
  have hx0 : (false && onTheHeap (Value.builtin "BaseException.__getattribute__")) = false := rfl
  have hx2 : (Value.builtin "BaseException.__getattribute__" == Value.builtin "object.__getattribute__") = false := by decide +kernel
  have hx1 : (onTheHeap (Value.ref D) && Value.builtin "BaseException.__getattribute__" == Value.builtin "object.__getattribute__") = false := by rw [hx2]; rfl
  unfold getAttr? getAttrBy? getAttrBy
  refine wpAny_bind (wpAny_mkText (wpAny_bind (wpAny_attempt (wpAny_holding (wpAny_bind (L0.at (wpAny_bind (L1.at ?_))))))))
  show wpAny _ _ (if (onTheHeap (Value.ref D) && Value.builtin "BaseException.__getattribute__" == Value.builtin "object.__getattribute__") = true then _ else _) _ _ _
  rw [hx1, if_neg Bool.false_ne_true]
  unfold getAttrByItsOwn hookBefore
  refine wpAny_bind ?_
  rw [if_pos (show onTheHeap (Value.ref D) = true from rfl)]
  refine L2.at ?_
  refine wpAny_bind (wpAny_attempt (wpAny_holding ?_))
  unfold callGetattribute
  rw [hx0, if_neg Bool.false_ne_true]
  unfold boundAndCalled
  rw [PySem.F.excAttr_ValueError.ga.bind (.ref x)]
  refine wpAny_bind (wpAny_pure ?_)
  show wpAny _ _ (call (.builtin "BaseException.__getattribute__") [.ref x, .str "__class__" t]) _ _ _
  refine wpAny_call (codeAny_call_builtin PySem.F.excAttr_ValueError.ga.plain PySem.F.entry_bexc_ga ?_)
  refine @check_slot (model prog w) _ _ ⟨hp, g, d, t + 1, os⟩ "BaseException.__getattribute__" "BaseException" "__getattribute__" (.ref x) [.str "__class__" t] [] _ (by decide +kernel) (by decide +kernel) sub (PySem.F.args_bexc_ga (.ref x) (.str "__class__" t)) ?_
  unfold Builtin.«object.__getattribute__»
  refine wpAny_bind (wpAny_of_eq (a := ((Value.ref x : Value), [Value.str "__class__" t])) (by first | rfl | (simp only [slotArgs]; rfl)) ?_)
  refine wpAny_bind (wpAny_pure (wpAny_bind (L0.at (wpAny_bind (L3.at ?_)))))
  show wpAny _ _ (holding [Value.builtin "object.__class__"] (call (.builtin "getset_descriptor.__get__") [.builtin "object.__class__", .ref x, .ref D]) >>= ret) _ _ _
  refine wpAny_bind (wpAny_holding (wpAny_call (class_get (s := ⟨hp, g, d, t + 1, os⟩) (ox := ox) (od := some od) X I hm ?_)))
  refine wpAny_pure ?_
  show wpAny _ _ (handedOut (.ref D)) _ _ _
  rw [handedOut_of (v := .ref D) rfl]
  first
    | exact wpAny_pure (wpAny_pure h)
    | exact wpAny_pure h
    | exact wpAny_pure (wpAny_bind (wpAny_pure (wpAny_pure h)))
theorem ty_kitx_exc (hga : findIn K (.ref D) "__getattribute__" = some (some (.builtin "BaseException.__getattribute__"))) (hgt : findIn K (.ref D) "__getattr__" = some none) (hsub : subIn K (.ref D) (.type "BaseException") = some true) (hdct : hasDictIn K D = true) (ha : findIn K (.ref D) "__class__" = some (some (.builtin "object.__class__")))
    (hn : specialIn K (.builtin "object.__class__") "__get__" = some (some (.builtin "getset_descriptor.__get__"))) (htk : takesIn K (.builtin "object.__class__") = some true) (hm : mroIn K D (.type "object") = some true) :
    KitX K (.ref x) (.ref D) (fun h => InstAt h x ox D (some od)) where
  ty := fun _ _ _ I => I.type
  it := fun _ _ X _ => by
    obtain ⟨cdD, hcD, _⟩ := any_some hdct
    unfold clsIn at hcD
    split at hcD
    · rename_i c' d' cd' sl' ho
      intro A' Q' E' s' k q
      unfold isType loadHead
      exact wpAny_bind (wpAny_loadPart (k _ _ (X _ _ ho)) (wpAny_pure q))
    · cases hcD
  ne := fun h tp dd its n sl X htp => (handS_kitx_exc (x := x) (ox := ox) hga hgt hsub hdct ha hn htk hm).ne h tp dd its n sl X htp
  ca := fun X I k => ty_classE hga hgt hsub hdct ha hn htk hm X I k
end
end PySem.W
namespace Ty
open PySem PySem.Spec PyProof.Rows L2
/-- isinstance(e, c), e the error that the suite holds, its fields in the dict at dd -/
def rIsF (K : PySem.W.Frag) (D a dd : Addr) : List V → Hp → VK → Prop := fun xs H Q => ∃ (c : V) (cv : Value) (b : Bool) (fs : List (Str × V)), xs = [.ref a, c] ∧ (∀ u, RelV c u → u = cv) ∧ PySem.W.kitOne K (.ref D) cv = some b ∧ H dd = some (.xd fs) ∧ Q (.bl b) H
theorem call_isF {X : Cx} {a D dd : Addr} {oe : Obj} {pn : List (Addr × Obj)} (C : ExcC X.K D) (hz : Zc (.ref D) (some dd) oe) (hf : ∃ vs, oe.data = .fields vs) : CallR (X.suite a ((a, oe) :: pn)) (.builtin "isinstance") (rIsF X.K D a dd) := by
  intro pins s σ H xs us Q I r h
  obtain ⟨c, cv, b, fs, rfl, hcv, e, hx, q⟩ := h
  cases r with
  | cons rx rr =>
    cases rr with
    | cons rt rr =>
      cases rr
      cases rx
      have ec := hcv _ rt
      subst ec
      obtain ⟨hget, _⟩ := I.pin (a, oe) (List.mem_append.mpr (.inl List.mem_cons_self))
      obtain ⟨vs, hv⟩ := hf
      have hxo : ObjOk X.prog X.w H s.heap dd (.xd fs) := I.hok dd _ hx
      obtain ⟨mA, hns, _⟩ := hxo
      obtain ⟨od, ho, _⟩ := lookIn_ns hns
      have J : PySem.W.InstAt s.heap a oe D (some od) := ⟨hget, hz.1, by unfold PySem.W.notCls; rw [hv] <;> rfl, by rw [hz.2]; exact ho⟩
      exact PySem.W.kia_one (PySem.W.ty_kitx_exc C.hg C.hk C.hs C.hd C.ha C.hn C.ht C.hm) I.kIn J e (fun z => nomatch z) fun tk => ⟨.bl b, H, I.kept (t' := tk) fun _ _ z => z, rfl, q⟩
/-! ### except X as n: ..; except Y as n: .. -/
abbrev HdT := Value × (Addr → Value → Option Addr → TS)
def wAses (K : PySem.W.Frag) (i : Nat) (Wout : WX) (D : Ends) : List HdT → WX
  | [] => Wout
  | (c, ts) :: r => fun cls d σ H => ∃ b, PySem.W.exmOne K cls c = some b ∧
      (b = true → ∀ a, H a = none → ts a cls d { nx := fun σ' H' => D.nx (σ'.set i none) H', rt := D.rt, bk := fun σ' H' => D.bk (σ'.set i none) H', ct := fun σ' H' => D.ct (σ'.set i none) H' } (σ.set i (some (.ref a))) H) ∧ (b = false → wAses K i Wout D r cls d σ H)
inductive HdsAs (X : Cx) (n : Str) : List ExceptHandler → List HdT → Prop
  | nil : HdsAs X n [] []
  | cons {x : Str} {c : Value} {ts : Addr → Value → Option Addr → TS} {b₀ : Stmt} {suite : List Stmt} {np pos' : Pos} {hds : List ExceptHandler} {l : List HdT} (hc : Names X x c)
      (hsu : ∀ (a : Addr) (oe : Obj) (cls : Value) (d : Option Addr) (pn : List (Addr × Obj)), Zc cls d oe → (∃ vs, oe.data = .fields vs) → PSs (X.suite a ((a, oe) :: pn)) (b₀ :: suite) (ts a cls d)) (r : HdsAs X n hds l) :
      HdsAs X n (.ExceptHandler (some (.Name x np)) (some n) (b₀ :: suite) pos' :: hds) ((c, ts) :: l)
section
variable {X : Cx} {n : Str} {i : Nat} {body : List Stmt} {h₀ : ExceptHandler} {hds : List ExceptHandler} {l : List HdT} {pos : Pos} {tb : WX → TS} {Wout : WX}
theorem ps_try_ases (hs : X.stack = X.env :: X.outer) (hf : X.env.frame = some X.env.locals) (hN : X.N.Nodup) (hi : X.N[i]? = some n) (hln : X.env.kindOf n = some .local) (tk : Takes X Wout)
    (hb : ∀ (W : WX) (pn : List (Addr × Obj)) (xe : Value → Shared → Prop), Takes (X.tr pn xe) W → PassesOwn (model X.prog X.w) X.A X.env xe → PSs (X.tr pn xe) body (tb W))
    (hh : HdsAs X n (h₀ :: hds) l) : PS X (.Try body (h₀ :: hds) [] [] pos) (fun D σ H => tb (wAses X.K i Wout D l) D σ H) := by
  refine ⟨fun pins s σ H D I h => ?_⟩
  have ok := I.ok
  have hfr : X.A.frames = some (X.env :: X.outer) := by rw [ok.frames, hs]
  have hloc : Loc X.env.scope n := .inl hln
  refine wpAny_Try_except ?_
  refine wpAny_mono ((hb (wAses X.K i Wout D l) (X.pn ++ pins) (fun e s₁ => wpAny (model X.prog X.w) X.A (noteFrame e X.env) (fun _ s₂ => wpAny (model X.prog X.w) X.A (setFlight e none) (fun _ s₃ =>
    wpAny (model X.prog X.w) X.A (handleBy e X.env (h₀ :: hds)) (SP X pins D) X.xe s₃) X.xe s₂) X.xe s₁) (fun u s' xx => ?_) PassesOwn.looking).run [] s σ H D (I.toTry _) h) (fun f s1 hsp => ?_) (fun e s1 he => he)
  · obtain ⟨a, B, sI, pins', σ', H', cls, d, rfl, J', nb, up, sky, na, os, ag, w⟩ := xx
    have J : Inv X pins σ' H' sI := J'.ofTry ok
    have sky' : Sky B (X.env :: X.outer) a (Zc cls d) X.env.locals s'.heap := by rw [← hs]; exact sky
    show wpAny (model X.prog X.w) X.A (noteFrame (.ref a) X.env) _ _ _
    refine Sky.land Zc.steady hfr hf sky' fun h3 fl3 up3 => ?_
    have J3 : Inv X pins σ' H' { s' with heap := h3 } := J.landed nb fl3.1 (up.trans up3) os ag
    obtain ⟨oe3, vs3, he3, hz3, hd3⟩ := fl3.there
    have notFr : ∀ {h : Heap} {o : Obj} {vs : Array Value}, h.FunFrames B (X.env :: X.outer) → h.get? a = some o → o.data = .fields vs → a ∉ frs (X.env :: X.outer) := fun {h o vs} ff e dd hm => by
      obtain ⟨_, o', e', hnf⟩ := ff.mem hm
      rw [e] at e'; cases e'
      exact hnf _ dd
    have nfr := notFr fl3.2.2.1 he3 hd3
    have nL : a ≠ X.env.locals := fun z => nfr (List.mem_filterMap.mpr ⟨X.env, List.mem_cons_self, by rw [hf, z]⟩)
    have nF : a ∉ X.fs := fun hm => by
      obtain ⟨e, he, q⟩ := List.mem_filterMap.mp hm
      exact nfr (List.mem_filterMap.mpr ⟨e, List.mem_cons_of_mem _ he, q⟩)
    have S3 := J3.suite he3 hd3 na nL nF
    have go : ∀ {hds' : List ExceptHandler} {l' : List HdT}, HdsAs X n hds' l' → wAses X.K i Wout D l' cls d σ' H' →
        wpAny (model X.prog X.w) X.A (handleBy (.ref a) X.env hds') (SP X pins D) X.xe { s' with heap := h3 } := by
      intro hds' l' hk
      induction hk with
      | nil =>
        intro w
        refine wpAny_handleBy_nil ?_
        obtain ⟨k1, k2, k3, oe, vs, T, oT, ts', he, hz, hd, h1, hr⟩ := id fl3
        unfold PySem.passOn
        refine wpAny_bind (wpAny_field he hd h1 ?_)
        rw [if_neg (show ¬ ((Value.ref T == Value.none) = true) from by simp)]
        have fin : wpAny (model X.prog X.w) X.A (setFlight (.ref a) X.env.frame) (fun _ s4 => wpAny (model X.prog X.w) X.A (throw (.ref a) : Sem Flow) (SP X pins D) X.xe s4) X.xe { s' with heap := h3 } := by
          rw [hf]
          refine HandSPX.setFlight_upZ fl3 fun h4 hh4 up4 => wpAny_throw (tk _ _ ?_)
          exact ⟨a, B, sI, pins, σ', H', cls, d, rfl, J, nb, (up.trans up3).trans up4, .inr (.inr (by rw [hs]; exact hh4)), na, os, ag, w⟩
        first
          | exact wpAny_bind (wpAny_pure (wpAny_bind fin))
          | exact wpAny_bind fin
      | @cons x c ts b₀ suite np pos' hds2 l2 hc hsu r ih =>
        intro w
        obtain ⟨b, hb1, hyes, hno⟩ := w
        refine wpAny_handleBy_cons (codeAny_handlers_test ?_) (by intro q; cases q)
        have LT : PySem.W.Looks (model X.prog X.w) h3 (typeOf (.ref a)) cls := fun A Q E s k q => wpAny_typeOf_ref (k _ _ he3) (by rw [hz3.1]; exact q)
        have LM := PySem.W.exm_one (M := model X.prog X.w) (J3.kIn) LT hb1
        have test : ∀ {Q : Value → Shared → Prop} {E : Value → Shared → Prop}, Q c { s' with heap := h3 } → wpAny (model X.prog X.w) (X.A.mark (some (.ref a))) (eval (.Name x np) X.env) Q E { s' with heap := h3 } := fun {Q E} q => by
          obtain ⟨hg, hdbg, hm | ⟨hm, hv, hnn⟩⟩ := hc
          · exact ld_glob (X := X.suite a ((a, oe3) :: (X.pn ++ pins))) S3 hg hm q hdbg
          · exact ld_blt (X := X.suite a ((a, oe3) :: (X.pn ++ pins))) S3 hg hm hv q hnn hdbg
        refine test (LM.here ?_)
        cases b with
        | true =>
          refine codeAny_handlers_suite_as ?_
          refine HandSPX.lands_againZ fl3 fun h4 fl4 up4 => ?_
          have J4 : Inv X pins σ' H' { s' with heap := h4 } := J.landed nb fl4.1 ((up.trans up3).trans up4) os ag
          obtain ⟨oe4, vs4, he4, hz4, hd4⟩ := fl4.there
          have S4 := J4.suite he4 hd4 na nL nF
          refine store_ok (X := X.suite a ((a, oe4) :: (X.pn ++ pins))) (v := .ref a) S4 hN hi hloc rfl (fun s5 S5 => ?_) (.inr hln)
          refine wpAny_mono ((hsu a oe4 cls d (X.pn ++ pins) hz4 ⟨_, hd4⟩).run [] s5 _ H' _ S5 (hyes rfl a na)) (fun f s6 hsp => ?_) (fun _ _ z => False.elim z)
          have end_ : ∀ {σ6 : L2.St} {H6 : Hp} {Q : Shared → Prop}, Inv (X.suite a ((a, oe4) :: (X.pn ++ pins))) [] σ6 H6 s6 → (∀ s7, Inv X pins (σ6.set i none) H6 s7 → Q s7) →
              wpAny (model X.prog X.w) X.A (do bindName X.env n .none; unbindBehindTheSuite X.env n pos') (fun _ s7 => Q s7) X.xe s6 := fun {σ6 H6 Q} S6 hq => gone_ok (S6.unsuite ok) hN hi hln hq
          cases f with
          | next =>
            obtain ⟨σ6, H6, S6, q6⟩ := hsp
            exact end_ S6 fun s7 J7 => ⟨_, _, J7, q6⟩
          | brk =>
            obtain ⟨σ6, H6, S6, q6⟩ := hsp
            exact end_ S6 fun s7 J7 => ⟨_, _, J7, q6⟩
          | cont =>
            obtain ⟨σ6, H6, S6, q6⟩ := hsp
            exact end_ S6 fun s7 J7 => ⟨_, _, J7, q6⟩
          | ret u =>
            obtain ⟨v6, σ6, H6, S6, r6, q6⟩ := hsp
            exact end_ S6 fun s7 J7 => ⟨_, _, _, J7, r6, q6⟩
        | false =>
          show wpAny _ X.A (handleBy (.ref a) X.env hds2) _ _ _
          exact ih (hno rfl)
    exact go hh w
  · cases f with
    | next =>
      obtain ⟨σ', H', J', q⟩ := hsp
      exact wpAny_execs_nil ⟨σ', H', J'.ofTry ok, q⟩
    | brk =>
      obtain ⟨σ', H', J', q⟩ := hsp
      exact ⟨σ', H', J'.ofTry ok, q⟩
    | cont =>
      obtain ⟨σ', H', J', q⟩ := hsp
      exact ⟨σ', H', J'.ofTry ok, q⟩
    | ret u =>
      obtain ⟨v, σ', H', J', r, q⟩ := hsp
      exact ⟨v, σ', H', J'.ofTry ok, r, q⟩
end
end Ty
set_option Elab.async false
set_option linter.all false
set_option maxRecDepth 100000
set_option maxHeartbeats 4000000
/-! _law_asked. -/
namespace Ty
open PySem PySem.Spec PyProof.Rows L2
def rIsG (K : PySem.W.Frag) (D a : Addr) (cls : Value) (d : Option Addr) : List V → Hp → VK → Prop := fun xs H Q => cls = .ref D ∧ ((d = none ∧ rIsE K D a xs H Q) ∨ ∃ dd, d = some dd ∧ rIsF K D a dd xs H Q)
theorem call_isG {X : Cx} {a D : Addr} {oe : Obj} {cls : Value} {d : Option Addr} {pn : List (Addr × Obj)} (C : ExcC X.K D) (hz : Zc cls d oe) (hf : ∃ vs, oe.data = .fields vs) : CallR (X.suite a ((a, oe) :: pn)) (.builtin "isinstance") (rIsG X.K D a cls d) := by
  intro pins s σ H xs us Q I r h
  obtain ⟨rfl, ⟨rfl, h⟩ | ⟨dd, rfl, h⟩⟩ := h
  · exact call_isE C hz hf pins s σ H xs us Q I r h
  · exact call_isF C hz hf pins s σ H xs us Q I r h
def errD : Err → Dat
  | .bar x => .lst [.str "BarThere", .str x, .bl true, .bl false]
  | .pin x => .lst [.str "NoPin", .str x, .bl true, .bl false]
  | .len x => .lst [.str "NoLength", .str x, .bl true, .bl false]
  | .many => .lst [.str "TooMany", .str "", .bl true, .bl false]
theorem raw_lst4 {H1 H H2 H' : Hp} {S : Sys} {a b : Str} {Q : VK} (st : Step H1 H H2 H') (q : ∀ H3 H'' v, Step H1 H H3 H'' → Dt S H3 v (.lst [.str a, .str b, .bl true, .bl false]) → Q v H'') : ([V.str a, V.str b, V.bl true, V.bl false]).length ≤ sizeLine ∧ ∀ p, H' p = none → Q (.ref p) (upd H' p (.lst [V.str a, V.str b, V.bl true, V.bl false])) :=
  ⟨Nat.le_of_ble_eq_true rfl, fun p hp => q _ _ _ (st.trans (Step.new st.s2 hp)) (.lst upd_same (.cons (.str _) (.cons (.str _) (.cons (.bl _) (.cons (.bl _) .nil)))))⟩
theorem raw_retS {sp : Sp} {E : L2.St → XK} {ta : TA} {Ds : Ends} {σ : L2.St} {H : Hp} (h : ta σ H fun vs H1 => sp vs H1 Ds.rt (E σ)) : tRet (tCallS sp E ta) Ds σ H := h
theorem raw_lst {a : V} {t2 t3 t4 : TE} {Ds : Ends} {σ : L2.St} {H : Hp} (h : t2 σ H fun b Hb => t3 σ Hb fun c Hc => t4 σ Hc fun d Hd => ([a, b, c, d]).length ≤ sizeLine ∧ ∀ p, Hd p = none → Ds.rt (.ref p) (upd Hd p (.lst [a, b, c, d]))) : tRet (tLst (tCons (tC a) (tCons t2 (tCons t3 (tCons t4 tNil))))) Ds σ H := h
theorem raw_xf {a : Addr} {C dd : Addr} {f : Str} {i : Nat} {σ : L2.St} {H : Hp} {Q : VK} {fs : List (Str × V)} {v : V} (hi : i < σ.length) (hd : H dd = some (.xd fs)) (hl : fs.lookup f = some v) (q : Q v H) : tXf a (.ref C) (some dd) C f (tVar i) (σ.set i (some (.ref a))) H Q :=
  ⟨_, List.getElem?_set_self hi, rfl, rfl, dd, fs, v, rfl, hd, hl, q⟩
theorem raw_isF {K : PySem.W.Frag} {a D Y dd : Addr} {i : Nat} {σ : L2.St} {H : Hp} {Q : VK} {fs : List (Str × V)} {b : Bool} (hi : i < σ.length) (hk : PySem.W.kitOne K (.ref D) (.ref Y) = some b) (hd : H dd = some (.xd fs)) (q : Q (.bl b) H) :
    tCB (rIsG K D a (.ref D) (some dd)) (tCons (tVar i) (tCons (tC (.ref Y)) tNil)) (σ.set i (some (.ref a))) H Q :=
  ⟨_, List.getElem?_set_self hi, rfl, .inr ⟨dd, rfl, .ref Y, .ref Y, b, fs, rfl, fun u h => h, hk, hd, q⟩⟩
theorem raw_isE {K : PySem.W.Frag} {a D Y : Addr} {i : Nat} {σ : L2.St} {H : Hp} {Q : VK} {b : Bool} (hi : i < σ.length) (hk : PySem.W.kitOne K (.ref D) (.ref Y) = some b) (q : Q (.bl b) H) :
    tCB (rIsG K D a (.ref D) none) (tCons (tVar i) (tCons (tC (.ref Y)) tNil)) (σ.set i (some (.ref a))) H Q :=
  ⟨_, List.getElem?_set_self hi, rfl, .inl ⟨rfl, .ref Y, .ref Y, b, rfl, fun u h => h, hk, q⟩⟩
theorem was_yes {K : PySem.W.Frag} {i : Nat} {Wout : WX} {D : Ends} {c cls : Value} {ts : Addr → Value → Option Addr → TS} {r : List HdT} {d : Option Addr} {σ : L2.St} {H : Hp} (h : PySem.W.exmOne K cls c = some true)
    (q : ∀ a, H a = none → ts a cls d { nx := fun σ' H' => D.nx (σ'.set i none) H', rt := D.rt, bk := fun σ' H' => D.bk (σ'.set i none) H', ct := fun σ' H' => D.ct (σ'.set i none) H' } (σ.set i (some (.ref a))) H) : wAses K i Wout D ((c, ts) :: r) cls d σ H := ⟨true, h, fun _ => q, fun z => by cases z⟩
theorem was_no {K : PySem.W.Frag} {i : Nat} {Wout : WX} {D : Ends} {c cls : Value} {ts : Addr → Value → Option Addr → TS} {r : List HdT} {d : Option Addr} {σ : L2.St} {H : Hp} (h : PySem.W.exmOne K cls c = some false) (q : wAses K i Wout D r cls d σ H) : wAses K i Wout D ((c, ts) :: r) cls d σ H := ⟨false, h, (fun z => by cases z), fun _ => q⟩
section
variable {Pr : Program} {w : World} {K : PySem.W.Frag} {mg : Str → Option Value} {base : Heap}
def Sp_asked (K : PySem.W.Frag) : Sp := fun vs H Q _ => ∃ H1 F n x y, Same H1 H ∧ DtA (sysOf K) H1 vs [.frm F, .lst [.str n, .str x, .str y]] ∧ FrmOk F ∧ F.pins.length ≤ 5 ∧ (askOf F n x y = none → F.bars.length ≤ 20 ∧ ∀ v H', ToldAt (sysOf K) (tellOf F n x y) H1 H v H' → Q v H') ∧
  ∀ e, askOf F n x y = some e → ∀ H2 H' v, Step H1 H H2 H' → Dt (sysOf K) H2 v (errD e) → Q v H'
theorem ok_law_asked (T : Txt K mg) (B : Bas Pr base) (X : Exq K) : FnOk Pr w K mg base CX0 48 (He.ga K "_law_asked") (fdAt K (He.ga K "_law_asked")) ["_law_frame_here", "_law_new_here"] (Sp_asked K) := by
  refine FunD.ok T.F_law_asked sc_law_asked (fun vs H Q E h => ?_) (fun cdv A outer s H vs Q E hr h => ?_)
  · obtain ⟨H1, F, n, x, y, _, dv, _⟩ := h
    exact dv.length
  · obtain ⟨H1, F, n, x, y, e, dv, ok, h5, hQ, hE⟩ := h
    have ie : ∀ z ∈ errs, ExcC K (He.ga K z) := X.exc
    refine ⟨_, PSs.nox (pss_one (ps_try_ases (i := 2) rfl rfl (sc_law_asked).nd rfl rfl takes_none5 (fun W pn xe tk _ => pss_one (ps_ret (pe_callS (ok_would_put T B X) (hr.mono (by decide)) rfl T.g_would_put T.F_would_put.kp T.b_would_put (fun σ => passAt tk σ) (pa_cons (pv 0) (pa_cons (pe_ix (ix_listK K) (pv 1) pe_int (fun _ _ => rfl)) (pa_cons (pe_ix (ix_listK K) (pv 1) pe_int (fun _ _ => rfl)) (pa_cons (pe_ix (ix_listK K) (pv 1) pe_int (fun _ _ => rfl)) pa_nil)))))))
      (HdsAs.cons ⟨rfl, by decide, .inl T.g_BarThere⟩ (fun a oe cls d pn hz hf => pss_one (ps_ret (pe_lst (pa_cons pe_str (pa_cons (pe_xf X.bar.xf X.bar.fl hz hf (pv 2)) (pa_cons (pe_callB (call_isG (ie "BarThere" (by decide)) hz hf) (by rfl) T.n_isinstance (by decide +kernel) (pa_cons (pv 2) (pa_cons (pe_glob (v := .ref _) rfl T.g_YardError rfl) pa_nil))) (pa_cons (pe_callB (call_isG (ie "BarThere" (by decide)) hz hf) (by rfl) T.n_isinstance (by decide +kernel) (pa_cons (pv 2) (pa_cons (pe_glob (v := .ref _) rfl T.g_NoPin rfl) pa_nil))) pa_nil)))))))
      (HdsAs.cons ⟨rfl, by decide, .inl T.g_NoPin⟩ (fun a oe cls d pn hz hf => pss_one (ps_ret (pe_lst (pa_cons pe_str (pa_cons (pe_xf X.pin.xf X.pin.fl hz hf (pv 2)) (pa_cons (pe_callB (call_isG (ie "NoPin" (by decide)) hz hf) (by rfl) T.n_isinstance (by decide +kernel) (pa_cons (pv 2) (pa_cons (pe_glob (v := .ref _) rfl T.g_YardError rfl) pa_nil))) (pa_cons (pe_callB (call_isG (ie "NoPin" (by decide)) hz hf) (by rfl) T.n_isinstance (by decide +kernel) (pa_cons (pv 2) (pa_cons (pe_glob (v := .ref _) rfl T.g_NoLength rfl) pa_nil))) pa_nil)))))))
      (HdsAs.cons ⟨rfl, by decide, .inl T.g_NoLength⟩ (fun a oe cls d pn hz hf => pss_one (ps_ret (pe_lst (pa_cons pe_str (pa_cons (pe_xf X.len.xf X.len.fl hz hf (pv 2)) (pa_cons (pe_callB (call_isG (ie "NoLength" (by decide)) hz hf) (by rfl) T.n_isinstance (by decide +kernel) (pa_cons (pv 2) (pa_cons (pe_glob (v := .ref _) rfl T.g_YardError rfl) pa_nil))) (pa_cons (pe_callB (call_isG (ie "NoLength" (by decide)) hz hf) (by rfl) T.n_isinstance (by decide +kernel) (pa_cons (pv 2) (pa_cons (pe_glob (v := .ref _) rfl T.g_TooMany rfl) pa_nil))) pa_nil)))))))
      (HdsAs.cons ⟨rfl, by decide, .inl T.g_TooMany⟩ (fun a oe cls d pn hz hf => pss_one (ps_ret (pe_lst (pa_cons pe_str (pa_cons pe_str (pa_cons (pe_callB (call_isG (ie "TooMany" (by decide)) hz hf) (by rfl) T.n_isinstance (by decide +kernel) (pa_cons (pv 2) (pa_cons (pe_glob (v := .ref _) rfl T.g_YardError rfl) pa_nil))) (pa_cons (pe_callB (call_isG (ie "TooMany" (by decide)) hz hf) (by rfl) T.n_isinstance (by decide +kernel) (pa_cons (pv 2) (pa_cons (pe_glob (v := .ref _) rfl T.g_BarThere rfl) pa_nil))) pa_nil))))))) HdsAs.nil)))))), ?_⟩
    have E1 := env_start (N := ["_law_frame_here", "_law_new_here", "e"]) dv
    have ix : ∀ {k : Nat} {z : Str}, [Dat.str n, .str x, .str y][k]? = some (.str z) → EvD (sysOf K) (tOp (rIxL K) (tVar 1) (tC (.int (k : Int)))) (start0 ["_law_frame_here", "_law_new_here", "e"] [.frm F, .lst [.str n, .str x, .str y]]) (.str z) := fun h => ed_op (ed_var rfl) ed_int (rv_ixL (at_ofD rfl h))
    refine raw_retS ((ea_cons (ed_var (i := 0) rfl) (ea_cons (ix (k := 0) (z := n) rfl) (ea_cons (ix (k := 1) (z := x) rfl) (ea_cons (ix (k := 2) (z := y) rfl) ea_nil)))) _ H1 H e E1 _ fun H2 H' vs s dvs => ?_)
    refine ⟨H2, F, n, x, y, s.s2, dvs, ok, h5, fun ha => ⟨(hQ ha).1, fun v H3 p => (hQ ha).2 v H3 (told_stable _ _ _ _ _ _ _ s p)⟩, fun er he H3 H'' c d s3 hd => ?_⟩
    have st := s.trans s3
    have et : ∀ z ∈ errs, PySem.W.exmOne K (.ref (He.ga K z)) (.ref (He.ga K z)) = some true := fun z hz => by rw [X.exm z hz z hz]; simp
    have ef : ∀ z ∈ errs, ∀ z' ∈ errs, ¬ z = z' → PySem.W.exmOne K (.ref (He.ga K z)) (.ref (He.ga K z')) = some false := fun z hz z' hz' ne => by rw [X.exm z hz z' hz', decide_eq_false ne]
    have kf : ∀ z ∈ errs, ∀ z' ∈ errs, ¬ z = z' → PySem.W.kitOne K (.ref (He.ga K z)) (.ref (He.ga K z')) = some false := fun z hz z' hz' ne => by rw [X.kit z hz z' hz', decide_eq_false ne]
    have mB : ("BarThere" : Str) ∈ errs := by decide
    have mP : ("NoPin" : Str) ∈ errs := by decide
    have mL : ("NoLength" : Str) ∈ errs := by decide
    have mM : ("TooMany" : Str) ∈ errs := by decide
    revert E1
    generalize L2.start ["_law_frame_here", "_law_new_here", "e"] _ = σ0
    intro E1
    have hl : 2 < σ0.length := by rw [E1.len]; exact Nat.le_of_ble_eq_true rfl
    have hEr := hE er he
    cases er with
    | bar x' =>
      obtain ⟨rfl, dd, rfl, hdd⟩ := hd
      refine was_yes (et _ mB) fun a ha => ?_
      exact raw_lst (raw_xf hl hdd rfl (raw_isF hl (X.kye _ mB) hdd (raw_isF hl (kf _ mB _ mP (by decide)) hdd (raw_lst4 (S := sysOf K) st hEr))))
    | pin x' =>
      obtain ⟨rfl, dd, rfl, hdd⟩ := hd
      refine was_no (ef _ mP _ mB (by decide)) (was_yes (et _ mP) fun a ha => ?_)
      exact raw_lst (raw_xf hl hdd rfl (raw_isF hl (X.kye _ mP) hdd (raw_isF hl (kf _ mP _ mL (by decide)) hdd (raw_lst4 (S := sysOf K) st hEr))))
    | len x' =>
      obtain ⟨rfl, dd, rfl, hdd⟩ := hd
      refine was_no (ef _ mL _ mB (by decide)) (was_no (ef _ mL _ mP (by decide)) (was_yes (et _ mL) fun a ha => ?_))
      exact raw_lst (raw_xf hl hdd rfl (raw_isF hl (X.kye _ mL) hdd (raw_isF hl (kf _ mL _ mM (by decide)) hdd (raw_lst4 (S := sysOf K) st hEr))))
    | many =>
      obtain ⟨rfl, rfl⟩ := hd
      refine was_no (ef _ mM _ mB (by decide)) (was_no (ef _ mM _ mP (by decide)) (was_no (ef _ mM _ mL (by decide)) (was_yes (et _ mM) fun a ha => ?_)))
      exact raw_lst (raw_isE hl (X.kye _ mM) (raw_isE hl (kf _ mM _ mB (by decide)) (raw_lst4 (S := sysOf K) st hEr)))
end
end Ty
set_option Elab.async false
set_option linter.all false
set_option maxRecDepth 100000
set_option maxHeartbeats 4000000
/-! The frame built: it stands apart. -/
namespace Ty
open PySem PySem.Spec PyProof.Rows L2
structure FrP (S : Sys) (H1 H : Hp) (a : Addr) (F : Frm) : Prop where
  ex : ∃ (dx s k j : Addr) (sp kp jt : List (Key × V)), H a = some (.ins S.CF dx (fflds s k j)) ∧ H s = some (.dK sp) ∧ H k = some (.dK kp) ∧ H j = some (.dK jt) ∧ DtK S H1 sp (spotsD F) ∧ DtK S H1 kp (keptD F) ∧ DtK S H1 jt (jointsD F) ∧
    H1 a = none ∧ H1 s = none ∧ H1 k = none ∧ H1 j = none ∧ s ≠ k ∧ s ≠ j ∧ k ≠ j
theorem FrP.step {S : Sys} {H1 H H2 H' : Hp} {a : Addr} {F : Frm} (p : FrP S H1 H a F) (s : Step H1 H H2 H') : FrP S H2 H' a F := by
  obtain ⟨dx, sa, k, j, sp, kp, jt, h0, h1, h2, h3, d1, d2, d3, n0, n1, n2, n3, e⟩ := p.ex
  exact ⟨dx, sa, k, j, sp, kp, jt, s.s3 _ _ h0, s.s3 _ _ h1, s.s3 _ _ h2, s.s3 _ _ h3, d1.mono s.s1, d2.mono s.s1, d3.mono s.s1, step_none s n0 h0, step_none s n1 h1, step_none s n2 h2, step_none s n3 h3, e⟩
theorem FrP.keep {S : Sys} {H1 H H' : Hp} {a : Addr} {F : Frm} (p : FrP S H1 H a F) (s : Same H H') : FrP S H1 H' a F := by
  obtain ⟨dx, sa, k, j, sp, kp, jt, h0, h1, h2, h3, r⟩ := p.ex
  exact ⟨dx, sa, k, j, sp, kp, jt, s _ _ h0, s _ _ h1, s _ _ h2, s _ _ h3, r⟩
/-- the frame as data -/
theorem FrP.dt {S : Sys} {H1 H : Hp} {a : Addr} {F : Frm} (p : FrP S H1 H a F) (e : Same H1 H) : ∃ H2, Same H1 H2 ∧ Same H2 H ∧ Dt S H2 (.ref a) (.frm F) := by
  obtain ⟨dx, s, k, j, sp, kp, jt, h0, h1, h2, h3, d1, d2, d3, n0, n1, n2, n3, e1, e2, e3⟩ := p.ex
  have a1 : a ≠ s := fun z => by rw [z, h1] at h0; cases h0
  have a2 : a ≠ k := fun z => by rw [z, h2] at h0; cases h0
  have a3 : a ≠ j := fun z => by rw [z, h3] at h0; cases h0
  refine ⟨upd (upd (upd (upd H1 s (.dK sp)) k (.dK kp)) j (.dK jt)) a (.ins S.CF dx (fflds s k j)), ?_, ?_, ?_⟩
  · exact (((same_new n1).trans (same_new (by rw [upd_ne (Ne.symm e1)]; exact n2))).trans (same_new (by rw [upd_ne (Ne.symm e3), upd_ne (Ne.symm e2)]; exact n3))).trans (same_new (by rw [upd_ne a3, upd_ne a2, upd_ne a1]; exact n0))
  · intro b o hb
    by_cases z0 : b = a
    · subst z0
      rw [upd_same] at hb
      rw [← hb]; exact h0
    rw [upd_ne z0] at hb
    by_cases z1 : b = j
    · subst z1
      rw [upd_same] at hb
      rw [← hb]; exact h3
    rw [upd_ne z1] at hb
    by_cases z2 : b = k
    · subst z2
      rw [upd_same] at hb
      rw [← hb]; exact h2
    rw [upd_ne z2] at hb
    by_cases z3 : b = s
    · subst z3
      rw [upd_same] at hb
      rw [← hb]; exact h1
    rw [upd_ne z3] at hb
    exact e _ _ hb
  · have m : Same H1 (upd (upd (upd (upd H1 s (.dK sp)) k (.dK kp)) j (.dK jt)) a (.ins S.CF dx (fflds s k j))) := (((same_new n1).trans (same_new (by rw [upd_ne (Ne.symm e1)]; exact n2))).trans (same_new (by rw [upd_ne (Ne.symm e3), upd_ne (Ne.symm e2)]; exact n3))).trans (same_new (by rw [upd_ne a3, upd_ne a2, upd_ne a1]; exact n0))
    refine .frm upd_same ?_ ?_ ?_ (d1.mono m) (d2.mono m) (d3.mono m)
    · rw [upd_ne (Ne.symm a1), upd_ne e2, upd_ne e1, upd_same]
    · rw [upd_ne (Ne.symm a2), upd_ne e3, upd_same]
    · rw [upd_ne (Ne.symm a3), upd_same]
theorem pe_or3 {X : Cx} {e : Expr} {t1 t2 t3 : TE} (h1 : PE X e t1) (h2 : PE X e t2) (h3 : PE X e t3) : PE X e (fun σ H Q => t1 σ H Q ∨ t2 σ H Q ∨ t3 σ H Q) := by
  refine ⟨fun pins s σ H Q I h => ?_⟩
  rcases h with h | h | h
  · exact h1.run pins s σ H Q I h
  · exact h2.run pins s σ H Q I h
  · exact h3.run pins s σ H Q I h
theorem passF {P : Program} {w : World} {X : Cx} : Passes (L2.CX P w) X E0 := fun _ _ _ _ _ _ _ h => by
  obtain ⟨_, _, _, _, _, _, _, _, _, _, _, _, z⟩ := h
  exact z.elim
def fixedW : List (Num × Num) := [((1, 1), (0, 1)), ((0, 1), (1, 1))]
section
variable {Pr : Program} {w : World} {K : PySem.W.Frag} {mg : Str → Option Value} {base : Heap}
/-! holds -/
def Sp_hold (S : Sys) (C : Addr) (fs : List (Str × V) → Hp → List (Num × Num) → Prop) : Sp := fun vs H Q _ => ∃ H1 b dx f ws, vs = [.ref b] ∧ Same H1 H ∧ H1 b = some (.ins C dx f) ∧ fs f H1 ws ∧ ∀ H2 H' v, Step H1 H H2 H' → Dt S H2 v (waysD ws) → Q v H'
theorem ok_Hold_ways (T : Txt K mg) (B : Bas Pr base) : FnOk Pr w K mg base CX0 40 (He.ma K (He.ga K "Hold") "ways") (fdAt K (He.ma K (He.ga K "Hold") "ways")) ["self"] (Sp_hold (sysOf K) (He.ga K "Hold") fun _ _ ws => ws = []) := by
  refine FunD.ok T.F_Hold_ways sc_Hold_ways (fun vs H Q E h => ?_) (fun cdv A outer s H vs Q E hr h => ?_)
  · obtain ⟨H1, b, dx, f, ws, rfl, _⟩ := h
    rfl
  · obtain ⟨H1, b, dx, f, ws, rfl, e, hb, rfl, q⟩ := h
    refine ⟨_, PSs.nox (pss_one (ps_ret (pe_lst pa_nil))), ?_⟩
    exact (rz_ret (R := fun Ha Hb v Hc => ∃ H2, Step Ha Hb H2 Hc ∧ Dt (sysOf K) H2 v (waysD [])) (ed_lst ea_nil) fun H1 H H2 H' v s dv => ⟨H2, s, dv⟩) _ H1 H _ e (env_start (ds := [.ptr b]) (.cons (.ptr b) .nil)) fun v H' ⟨H2, s, dv⟩ => q H2 H' v s dv
theorem ok_Fixed_ways (T : Txt K mg) (B : Bas Pr base) : FnOk Pr w K mg base CX0 40 (He.ma K (He.ga K "Fixed") "ways") (fdAt K (He.ma K (He.ga K "Fixed") "ways")) ["self"] (Sp_hold (sysOf K) (He.ga K "Fixed") fun _ _ ws => ws = fixedW) := by
  refine FunD.ok T.F_Fixed_ways sc_Fixed_ways (fun vs H Q E h => ?_) (fun cdv A outer s H vs Q E hr h => ?_)
  · obtain ⟨H1, b, dx, f, ws, rfl, _⟩ := h
    rfl
  · obtain ⟨H1, b, dx, f, ws, rfl, e, hb, rfl, q⟩ := h
    refine ⟨_, PSs.nox (pss_one (ps_ret (pe_lst (pa_cons (pe_tup (pa_cons (pe_tup (pa_cons pe_int (pa_cons pe_int pa_nil))) (pa_cons (pe_tup (pa_cons pe_int (pa_cons pe_int pa_nil))) pa_nil))) (pa_cons (pe_tup (pa_cons (pe_tup (pa_cons pe_int (pa_cons pe_int pa_nil))) (pa_cons (pe_tup (pa_cons pe_int (pa_cons pe_int pa_nil))) pa_nil))) pa_nil))))), ?_⟩
    have h2 : ∀ {i j : Int} {G : Gam}, EvD (sysOf K) (tTup (tCons (tC (.int i)) (tCons (tC (.int j)) tNil))) G (.tup [.int i, .int j]) := ed_tup (ea_cons ed_int (ea_cons ed_int ea_nil))
    exact (rz_ret (R := fun Ha Hb v Hc => ∃ H2, Step Ha Hb H2 Hc ∧ Dt (sysOf K) H2 v (waysD fixedW)) (ed_lst (ea_cons (ed_tup (ea_cons h2 (ea_cons h2 ea_nil))) (ea_cons (ed_tup (ea_cons h2 (ea_cons h2 ea_nil))) ea_nil))) fun H1 H H2 H' v s dv => ⟨H2, s, dv⟩) _ H1 H _ e (env_start (ds := [.ptr b]) (.cons (.ptr b) .nil)) fun v H' ⟨H2, s, dv⟩ => q H2 H' v s dv
def rollF (S : Sys) (f : List (Str × V)) (H1 : Hp) (ws : List (Num × Num)) : Prop := f.lookup ("ways" : Str) = none ∧ ∃ vx vy x y, f.lookup ("across" : Str) = some vx ∧ f.lookup ("upward" : Str) = some vy ∧ Dt S H1 vx (num x) ∧ Dt S H1 vy (num y) ∧ ws = [(x, y)]
theorem ok_Roller_ways (T : Txt K mg) (B : Bas Pr base) : FnOk Pr w K mg base CX0 40 (He.ma K (He.ga K "Roller") "ways") (fdAt K (He.ma K (He.ga K "Roller") "ways")) ["self"] (Sp_hold (sysOf K) (He.ga K "Roller") (rollF (sysOf K))) := by
  refine FunD.ok T.F_Roller_ways sc_Roller_ways (fun vs H Q E h => ?_) (fun cdv A outer s H vs Q E hr h => ?_)
  · obtain ⟨H1, b, dx, f, ws, rfl, _⟩ := h
    rfl
  · obtain ⟨H1, b, dx, f, ws, rfl, e, hb, ⟨_, vx, vy, x, y, l1, l2, d1, d2, rfl⟩, q⟩ := h
    refine ⟨_, PSs.nox (pss_one (ps_ret (pe_lst (pa_cons (pe_tup (pa_cons (pe_fld (pv 0) rfl) (pa_cons (pe_fld (pv 0) rfl) pa_nil))) pa_nil)))), ?_⟩
    refine ⟨_, rfl, b, _, dx, f, vx, rfl, e _ _ hb, T.cl_Roller, T.a_Roller_across, l1, ?_⟩
    refine ⟨_, rfl, b, _, dx, f, vy, rfl, e _ _ hb, T.cl_Roller, T.a_Roller_upward, l2, ?_⟩
    refine ⟨Nat.le_of_ble_eq_true rfl, fun p hp => ⟨Nat.le_of_ble_eq_true rfl, fun p2 hp2 => ?_⟩⟩
    have s1 := Step.new (o := .tup [vx, vy]) e hp
    have s2 := Step.new (o := .lst [V.ref p]) s1.s2 hp2
    refine q _ _ _ (s1.trans s2) (.lst upd_same (.cons (.tup (SqT.of (s2.s1 _ _ upd_same)) (.cons (d1.mono (s1.trans s2).s1) (.cons (d2.mono (s1.trans s2).s1) .nil))) .nil))
/-- Roller(x, y) -/
def Sp_roll (S : Sys) : Sp := fun vs H Q _ => ∃ H1 b dx vx vy x y, vs = [.ref b, vx, vy] ∧ Same H1 H ∧ H b = some (.ins (He.ga S.K "Roller") dx []) ∧ H1 b = none ∧ Dt S H1 vx (num x) ∧ Dt S H1 vy (num y) ∧ ¬ (x.1 = 0 ∧ y.1 = 0) ∧
  ∀ H2 H' f, Same H1 H2 → Same H2 H' → (∀ c o, c ≠ b → H c = some o → H' c = some o) → H2 b = some (.ins (He.ga S.K "Roller") dx f) → rollF S f H2 [(x, y)] → (∀ c o, H2 c = some o → H1 c = some o ∨ H c = none ∨ c = b) → Q .non H'
theorem ok_Roller_init (T : Txt K mg) (B : Bas Pr base) : FnOk Pr w K mg base CX0 40 (He.ma K (He.ga K "Roller") "__init__") (fdAt K (He.ma K (He.ga K "Roller") "__init__")) ["self", "x", "y"] (Sp_roll (sysOf K)) := by
  refine FunD.ok T.F_Roller_init sc_Roller_init (fun vs H Q E h => ?_) (fun cdv A outer s H vs Q E hr h => ?_)
  · obtain ⟨H1, b, dx, vx, vy, x, y, rfl, _⟩ := h
    rfl
  · obtain ⟨H1, b, dx, vx, vy, x, y, rfl, e, hb, hn, d1, d2, hxy, q⟩ := h
    refine ⟨_, PSs.nox (pss_cons (ps_if (PW.pt (pw_and (pt_cmpR op_eq (pe_ix ix_tup (pv 1) pe_int (fun _ _ => rfl)) pe_int (nomark _)) (pw_and1 (pt_cmpR op_eq (pe_ix ix_tup (pv 2) pe_int (fun _ _ => rfl)) pe_int (nomark _))))) (pss_one ps_never) pss_nil) (pss_cons (ps_fld (pv 0) (pv 1) rfl) (pss_one (ps_fld (pv 0) (pv 2) rfl)))), ?_⟩
    refine raw_seq ((et_and (a := decide (x.1 = 0)) (b := decide (y.1 = 0)) (et_test (ed_op (ed_n0 (ed_var (i := 1) rfl)) ed_int rv_eqI)) (fun _ => et_test (ed_op (ed_n0 (ed_var (i := 2) rfl)) ed_int rv_eqI)) : EvT (sysOf K) _ [some (.ptr b), some (num x), some (num y)] _) _ H1 H e (env_start (ds := [.ptr b, num x, num y]) (.cons (.ptr b) (.cons d1 (.cons d2 .nil)))) _ fun H2 H' s => ?_)
    rw [show (decide (x.1 = 0) && decide (y.1 = 0)) = false by simpa using fun a b => hxy ⟨a, b⟩]
    have hb2 := s.s3 _ _ hb
    have hn2 := step_none s hn hb
    refine iteF ?_
    refine ⟨_, rfl, _, rfl, b, _, dx, _, rfl, hb2, T.cl_Roller, T.a_Roller_across, Nat.le_of_ble_eq_true rfl, ?_⟩
    refine ⟨_, rfl, _, rfl, b, _, dx, _, rfl, upd_same, T.cl_Roller, T.a_Roller_upward, Nat.le_of_ble_eq_true rfl, ?_⟩
    refine q (upd H2 b (.ins (He.ga K "Roller") dx [("across", vx), ("upward", vy)])) _ [("across", vx), ("upward", vy)] (s.s1.trans (same_new hn2)) ?_ ?_ upd_same ⟨rfl, vx, vy, x, y, rfl, rfl, (d1.mono s.s1).mono (same_new hn2), (d2.mono s.s1).mono (same_new hn2), rfl⟩ ?_
    · intro c o hc
      by_cases z : c = b
      · subst z
        rw [upd_same] at hc ⊢
        exact hc
      · rw [upd_ne z] at hc
        rw [upd_ne z, upd_ne z]
        exact s.s2 _ _ hc
    · intro c o z hc
      rw [upd_ne z, upd_ne z]
      exact s.s3 _ _ hc
    · intro c o hc
      by_cases z : c = b
      · exact .inr (.inr z)
      · rw [upd_ne z] at hc
        rcases s.fr c o hc with r | r
        · exact .inl r
        · exact .inr (.inl r)
/-! pin_at -/
def wayPy (w : Num × Num) : PyData := .tuple [numPy w.1, numPy w.2]
theorem toPy_way (w : Num × Num) : toPy (way w) = some (wayPy w) := by
  show toPy (.tup [num w.1, num w.2]) = _
  simp [toPy, toPys, toPy_num, wayPy]
theorem shaped_way (w : Num × Num) : SeqAt.shaped (wayPy w) = true := by
  unfold wayPy numPy SeqAt.shaped
  simp [PyData.canLay0, PyData.canLayAll0, PyData.depth, PyData.depthAll]
theorem eqv_way (p q : Num × Num) : PyData.eqv (wayPy p) (wayPy q) = decide (p = q) := by
  have h1 := eqv_num p.1 q.1
  have h2 := eqv_num p.2 q.2
  obtain ⟨a, b⟩ := p
  obtain ⟨c, d⟩ := q
  simp only [wayPy, PyData.eqv, PyData.eqvAll] at h1 h2 ⊢
  rw [h1, h2]
  by_cases e1 : a = c <;> by_cases e2 : b = d <;> simp [e1, e2]
theorem rv_eqW {S : Sys} {p q : Num × Num} : RvD S (rEqD S.K) (way p) (way q) (.bl (decide (p = q))) := by
  rw [← eqv_way]
  exact rv_eqD (toPy_way p) (toPy_way q) (shaped_way p) (shaped_way q)
def Sp_pin_at (S : Sys) : Sp := fun vs H Q _ => ∃ H1 a F vx vy x y, vs = [.ref a, vx, vy] ∧ Same H1 H ∧ Dt S H1 vx (num x) ∧ Dt S H1 vy (num y) ∧ FrP S H1 H a F ∧ (∀ p ∈ F.pins, ¬ (p.x, p.y) = (x, y)) ∧ ∀ H2 H', Step H1 H H2 H' → Q .non H'
theorem ok_Frame_pin_at (T : Txt K mg) (B : Bas Pr base) : FnOk Pr w K mg base CX0 40 (He.ma K (He.ga K "Frame") "pin_at") (fdAt K (He.ma K (He.ga K "Frame") "pin_at")) ["self", "x", "y"] (Sp_pin_at (sysOf K)) := by
  refine FunD.ok T.F_Frame_pin_at sc_Frame_pin_at (fun vs H Q E h => ?_) (fun cdv A outer s H vs Q E hr h => ?_)
  · obtain ⟨H1, a, F, vx, vy, x, y, rfl, _⟩ := h
    rfl
  · obtain ⟨H1, a, F, vx, vy, x, y, rfl, e, d1, d2, fp, hno, q⟩ := h
    refine ⟨_, PSs.nox (pss_cons (ps_lock (ps_for PassesOwn.never rfl (pi_items (pe_fld (pv 0) rfl)) (pg_tup rfl (pgs_cons (pg_name (i := 3) (sc_Frame_pin_at).nd rfl (Or.inl rfl)) (pgs_cons (pg_name (i := 4) (sc_Frame_pin_at).nd rfl (Or.inl rfl)) pgs_nil))) (pss_one (ps_if (pt_cmpR (op_eqD hr.units) (pv 4) (pe_tup (pa_cons (pv 1) (pa_cons (pv 2) pa_nil))) (nomark _)) (pss_one (ps_ret (pv 3))) pss_nil)))) (pss_one (ps_ret pe_non))), ?_⟩
    obtain ⟨dx, s, k, j, sp, kp, jt, h0, h1, h2, h3, e1, e2, e3, n0, n1, n2, n3, ne⟩ := fp.ex
    have as : a ≠ s := fun z => by rw [z, h1] at h0; cases h0
    refine raw_seq (items_rd (S := sysOf K) (P := fun o => ∃ z1 z2, o = .nx [some (.ptr a), some (num x), some (num y), z1, z2]) (G := [some (.ptr a), some (num x), some (num y), none, none]) e (env_start (ds := [.ptr a, num x, num y]) (.cons (.ptr a) (.cons d1 (.cons d2 .nil)))) h1 n1 e1 ⟨?_, fun d p => ?_, fun G p => ?_, fun G p => ?_⟩ ?_ (fun k G => ∃ z1 z2, G = [some (.ptr a), some (num x), some (num y), z1, z2]) ⟨_, _, rfl⟩ ?_ ?_)
    · rintro G p σ' H2 H' st E'
      exact q H2 H' st
    · obtain ⟨_, _, p⟩ := p
      cases p
    · obtain ⟨_, _, p⟩ := p
      cases p
    · obtain ⟨_, _, p⟩ := p
      cases p
    · intro od Q' q'
      exact ⟨_, rfl, a, _, dx, _, .ref s, rfl, by rw [upd_ne as]; exact h0, T.cl_Frame, T.a_Frame_spots, rfl, q'⟩
    · rintro k ky d G hd ⟨z1, z2, rfl⟩
      unfold spotsD at hd
      obtain ⟨p, hp, he⟩ := map_get hd
      injection he with he1 he2
      subst he1 he2
      refine ⟨_, tg_tup (ds := [.str p.name, spotD p]) (tgs_cons tg_name (tgs_cons tg_name tgs_nil)), rd_if (b := false) ((et_test (ed_op (x := way (p.x, p.y)) (y := way (x, y)) (ed_var rfl) (ed_tup (ea_cons (ed_var rfl) (ea_cons (ed_var rfl) ea_nil))) rv_eqW)).to (decide_eq_false (hno p (get_mem hp)))) (fun h => by cases h) fun _ => rd_next ⟨_, _, rfl⟩⟩
    · rintro G ⟨z1, z2, rfl⟩
      exact ⟨_, _, rfl⟩
end
end Ty
set_option Elab.async false
set_option linter.all false
set_option maxRecDepth 100000
set_option maxHeartbeats 4000000
/-! The frame built, further. -/
namespace Ty
open PySem PySem.Spec PyProof.Rows L2
def holdAt (S : Sys) (H1 : Hp) (vh : V) (ws : List (Num × Num)) : Prop := (vh = .non ∧ ws = []) ∨ (∃ b dx f, vh = .ref b ∧ H1 b = some (.ins (He.ga S.K "Hold") dx f) ∧ f.lookup ("ways" : Str) = none ∧ ws = []) ∨ (∃ b dx f, vh = .ref b ∧ H1 b = some (.ins (He.ga S.K "Roller") dx f) ∧ rollF S f H1 ws) ∨ ∃ b dx f, vh = .ref b ∧ H1 b = some (.ins (He.ga S.K "Fixed") dx f) ∧ f.lookup ("ways" : Str) = none ∧ ws = fixedW
theorem rollF_mono {S : Sys} {H H' : Hp} {f : List (Str × V)} {ws : List (Num × Num)} (e : Same H H') (h : rollF S f H ws) : rollF S f H' ws := by
  obtain ⟨lw, vx, vy, x, y, l1, l2, d1, d2, r⟩ := h
  exact ⟨lw, vx, vy, x, y, l1, l2, d1.mono e, d2.mono e, r⟩
theorem holdAt_mono {S : Sys} {H H' : Hp} {v : V} {ws : List (Num × Num)} (e : Same H H') (h : holdAt S H v ws) : holdAt S H' v ws := by
  rcases h with h | ⟨b, dx, f, h1, h2, h3⟩ | ⟨b, dx, f, h1, h2, h3⟩ | ⟨b, dx, f, h1, h2, h3⟩
  · exact .inl h
  · exact .inr (.inl ⟨b, dx, f, h1, e _ _ h2, h3⟩)
  · exact .inr (.inr (.inl ⟨b, dx, f, h1, e _ _ h2, rollF_mono e h3⟩))
  · exact .inr (.inr (.inr ⟨b, dx, f, h1, e _ _ h2, h3⟩))
theorem holdAt_dat {S : Sys} {H : Hp} {v : V} {ws : List (Num × Num)} (h : holdAt S H v ws) : ∃ d, Dt S H v d ∧ ((d = .non ∧ v = .non) ∨ ∃ b, d = .ptr b ∧ v = .ref b) := by
  rcases h with ⟨rfl, _⟩ | ⟨b, dx, f, rfl, h2, h3⟩ | ⟨b, dx, f, rfl, h2, h3⟩ | ⟨b, dx, f, rfl, h2, h3⟩
  · exact ⟨.non, .non, .inl ⟨rfl, rfl⟩⟩
  all_goals exact ⟨.ptr b, .ptr b, .inr ⟨b, rfl, rfl⟩⟩
theorem step_make {H1 H : Hp} {x dx : Addr} {C : Addr} (e : Same H1 H) (hx : H x = none) (hd : H dx = none) (ne : dx ≠ x) : Step H1 H (upd H1 x (.ins C dx [])) (upd (upd H dx (.own x)) x (.ins C dx [])) :=
  ⟨same_new (e.free hx), fun b o hb => by
    by_cases z : b = x
    · subst z
      rw [upd_same] at hb ⊢
      exact hb
    · rw [upd_ne z] at hb
      have z2 : b ≠ dx := fun y => by rw [y, e.free hd] at hb; cases hb
      rw [upd_ne z, upd_ne z2]
      exact e _ _ hb, fun b o hb => by
    have z : b ≠ x := fun y => by rw [y, hx] at hb; cases hb
    have z2 : b ≠ dx := fun y => by rw [y, hd] at hb; cases hb
    rw [upd_ne z, upd_ne z2]
    exact hb, fun b o hb => by
    by_cases z : b = x
    · subst z
      exact .inr hx
    · rw [upd_ne z] at hb
      exact .inl hb⟩
theorem raw_ifn {S : Sys} {c : TT} {G : Gam} {t u : TS} {Ds : Ends} {σ : L2.St} {H1 H : Hp} (h : EvT S c G false) (e : Same H1 H) (E : EnvD S H1 σ G) (q : ∀ H2 H', Step H1 H H2 H' → u Ds σ H') : tSeq (tIfS c t tNext) u Ds σ H := h σ H1 H e E _ fun H2 H' s => iteF (q H2 H' s)
theorem raw_ify {S : Sys} {c : TT} {G : Gam} {t u : TS} {Ds : Ends} {σ : L2.St} {H1 H : Hp} (h : EvT S c G true) (e : Same H1 H) (E : EnvD S H1 σ G) (q : ∀ H2 H', Step H1 H H2 H' → t { Ds with nx := u Ds } σ H') : tSeq (tIfS c t tNext) u Ds σ H := h σ H1 H e E _ fun H2 H' s => iteT (q H2 H' s)
def Frm.addPin (F : Frm) (p : Pin) : Frm := ⟨F.pins ++ [p], F.bars⟩
def Frm.addBar (F : Frm) (b : Str × Str × Str) : Frm := ⟨F.pins, F.bars ++ [b]⟩
theorem DtK.new {S : Sys} {H : Hp} {v : List (Key × V)} {d : List (Key × Dat)} {k : Key} {u : V} {x : Dat} (h : DtK S H v d) (q : Dt S H u x) (hk : valD d k = none) : DtK S H (putK v k u) (d ++ [(k, x)]) := by
  have hnk : ¬ k ∈ d.map (·.1) := fun m => by
    obtain ⟨p, hp, e⟩ := List.mem_map.mp m
    unfold valD at hk
    cases z : d.find? (fun kv => decide (kv.1 = k)) with
    | some r => rw [z] at hk; cases hk
    | none =>
      have := List.find?_eq_none.mp z p hp
      simp at this
      exact this e
  have e := h.put (k := k) q
  rwa [putD_new hnk] at e
section
variable {Pr : Program} {w : World} {K : PySem.W.Frag} {mg : Str → Option Value} {base : Heap}
def Sp_Finit (S : Sys) : Sp := fun vs H Q _ => ∃ H1 a dx, vs = [.ref a] ∧ Same H1 H ∧ H1 a = none ∧ H a = some (.ins S.CF dx []) ∧ ∀ H', Same H1 H' → FrP S H1 H' a ⟨[], []⟩ → Q .non H'
theorem ok_Frame_init (T : Txt K mg) (B : Bas Pr base) : FnOk Pr w K mg base CX0 40 (He.ma K (He.ga K "Frame") "__init__") (fdAt K (He.ma K (He.ga K "Frame") "__init__")) ["self"] (Sp_Finit (sysOf K)) := by
  refine FunD.ok T.F_Frame_init sc_Frame_init (fun vs H Q E h => ?_) (fun cdv A outer s H vs Q E hr h => ?_)
  · obtain ⟨H1, a, dx, rfl, _⟩ := h
    rfl
  · obtain ⟨H1, a, dx, rfl, e, hn, ha, q⟩ := h
    refine ⟨_, PSs.nox (pss_cons (ps_fld (pv 0) pe_dnewK rfl) (pss_cons (ps_fld (pv 0) pe_dnewK rfl) (pss_one (ps_fld (pv 0) pe_dnewK rfl)))), ?_⟩
    refine fun s hs => ⟨_, rfl, a, _, dx, [], rfl, ?_, T.cl_Frame, T.a_Frame_spots, Nat.le_of_ble_eq_true rfl, ?_⟩
    · have : a ≠ s := fun z => by rw [z, hs] at ha; cases ha
      rw [upd_ne this]
      exact ha
    refine fun k hk => ⟨_, rfl, a, _, dx, [("spots", .ref s)], rfl, ?_, T.cl_Frame, T.a_Frame_kept, Nat.le_of_ble_eq_true rfl, ?_⟩
    · have : a ≠ k := fun z => by rw [← z, upd_same] at hk; cases hk
      rw [upd_ne this, upd_same]
      rfl
    refine fun j hj => ⟨_, rfl, a, _, dx, [("spots", .ref s), ("kept", .ref k)], rfl, ?_, T.cl_Frame, T.a_Frame_joints, Nat.le_of_ble_eq_true rfl, ?_⟩
    · have : a ≠ j := fun z => by rw [← z, upd_same] at hj; cases hj
      rw [upd_ne this, upd_same]
      rfl
    have as : a ≠ s := fun z => by rw [z, hs] at ha; cases ha
    have ak : a ≠ k := fun z => by rw [← z, upd_same] at hk; cases hk
    have aj : a ≠ j := fun z => by rw [← z, upd_same] at hj; cases hj
    have sk : s ≠ k := fun z => by rw [← z, upd_ne (Ne.symm as), upd_same] at hk; cases hk
    have kj : k ≠ j := fun z => by rw [← z, upd_ne (Ne.symm ak), upd_same] at hj; cases hj
    have sj : s ≠ j := fun z => by rw [← z, upd_ne (Ne.symm as), upd_ne sk, upd_ne (Ne.symm as), upd_same] at hj; cases hj
    rw [upd_ne (Ne.symm ak)] at hk
    have hk0 : H k = none := by rw [upd_ne (Ne.symm sk)] at hk; exact hk
    have hj0 : H j = none := by rw [upd_ne (Ne.symm aj), upd_ne (Ne.symm kj), upd_ne (Ne.symm aj), upd_ne (Ne.symm sj)] at hj; exact hj
    refine q _ (same_mut (same_mut (same_mut (same_mut (same_mut (same_mut e (e.free hs)) hn) (e.free hk0)) hn) (e.free hj0)) hn) ⟨dx, s, k, j, [], [], [], ?_, ?_, ?_, ?_, .nil, .nil, .nil, hn, e.free hs, e.free hk0, e.free hj0, sk, sj, kj⟩
    · rw [upd_same]
      rfl
    · rw [upd_ne (Ne.symm as), upd_ne sj, upd_ne (Ne.symm as), upd_ne sk, upd_ne (Ne.symm as), upd_same]
    · rw [upd_ne (Ne.symm ak), upd_ne kj, upd_ne (Ne.symm ak), upd_same]
    · rw [upd_ne (Ne.symm aj), upd_same]
def tHoldWays (K : PySem.W.Frag) : TE := fun σ H Q => tMeth (He.ga K "Hold") "ways" (Sp_hold (sysOf K) (He.ga K "Hold") fun _ _ ws => ws = []) [] E0 (tVar 4) tNil σ H Q ∨ tMeth (He.ga K "Roller") "ways" (Sp_hold (sysOf K) (He.ga K "Roller") (rollF (sysOf K))) [] E0 (tVar 4) tNil σ H Q ∨
  tMeth (He.ga K "Fixed") "ways" (Sp_hold (sysOf K) (He.ga K "Fixed") fun _ _ ws => ws = fixedW) [] E0 (tVar 4) tNil σ H Q
theorem holdWays_ok {H1 H : Hp} {x0 x1 x2 x3 x5 : Option V} {vh : V} {ws : List (Num × Num)} (hh : holdAt (sysOf K) H1 vh ws) (hv : vh ≠ .non) (e : Same H1 H) (Q : VK) (q : ∀ H2 H' v, Step H1 H H2 H' → Dt (sysOf K) H2 v (waysD ws) → Q v H') : tHoldWays K [x0, x1, x2, x3, some vh, x5] H Q := by
  rcases hh with ⟨h, _⟩ | ⟨b, dx, f, rfl, h2, lw, rfl⟩ | ⟨b, dx, f, rfl, h2, h3⟩ | ⟨b, dx, f, rfl, h2, lw, rfl⟩
  · exact absurd h hv
  · exact .inl ⟨_, rfl, b, dx, f, rfl, e _ _ h2, lw, H1, b, dx, f, _, rfl, e, h2, rfl, q⟩
  · exact .inr (.inl ⟨_, rfl, b, dx, f, rfl, e _ _ h2, h3.1, H1, b, dx, f, _, rfl, e, h2, h3, q⟩)
  · exact .inr (.inr ⟨_, rfl, b, dx, f, rfl, e _ _ h2, lw, H1, b, dx, f, _, rfl, e, h2, rfl, q⟩)
theorem put_tail (T : Txt K mg) {H1 H : Hp} {a : Addr} {F : Frm} {n : Str} {vx vy vh : V} {x5 : Option V} {x y : Num} {ws : List (Num × Num)} {Ds : Ends} (e : Same H1 H) (d1 : Dt (sysOf K) H1 vx (num x)) (d2 : Dt (sysOf K) H1 vy (num y)) (hh : holdAt (sysOf K) H1 vh ws) (hv : vh ≠ .non) (fp : FrP (sysOf K) H1 H a F)
    (hn : F.pinAt n = none) (hl : F.pins.length < 24) (q : ∀ H2 H', Same H1 H2 → Same H2 H' → FrP (sysOf K) H2 H' a (F.addPin ⟨n, x, y, ws⟩) → Ds.nx [some (.ref a), some (.str n), some vx, some vy, some vh, x5] H') :
    tSeq (sDPut (tFld K (tVar 0) "spots") (tVar 1) (tTup (tCons (tVar 2) (tCons (tVar 3) tNil)))) (sDPut (tFld K (tVar 0) "kept") (tVar 1) (tHoldWays K)) Ds [some (.ref a), some (.str n), some vx, some vy, some vh, x5] H := by
  refine ⟨_, rfl, _, rfl, Nat.le_of_ble_eq_true rfl, fun p hp => ?_⟩
  have st := Step.new (o := .tup [vx, vy]) e hp
  obtain ⟨dx, sa, k, j, sp, kp, jt, h0, h1, h2, h3, e1, e2, e3, n0, n1, n2, n3, ne1, ne2, ne3⟩ := (fp.step st).ex
  have as : a ≠ sa := fun z => by rw [z, h1] at h0; cases h0
  have ak : a ≠ k := fun z => by rw [z, h2] at h0; cases h0
  have lsp : sp.length = F.pins.length := by rw [e1.length]; unfold spotsD; simp
  have lkp : kp.length = F.pins.length := by rw [e2.length]; unfold keptD; simp
  refine ⟨_, rfl, a, _, dx, _, .ref sa, rfl, h0, T.cl_Frame, T.a_Frame_spots, rfl, _, rfl, sa, _, rfl, DPut.k (k := .inr n) h1 (by rw [lsp, sizeLine_eq]; omega), ?_⟩
  have sm := same_mut (o := .dK (putK sp (.inr n) (.ref p))) st.s2 n1
  refine holdWays_ok (holdAt_mono st.s1 hh) hv sm _ fun H2 H' v s dv => ?_
  have g0 : (upd (upd H p (.tup [vx, vy])) sa (.dK (putK sp (.inr n) (.ref p)))) a = some (.ins (sysOf K).CF dx (fflds sa k j)) := by rw [upd_ne as]; exact h0
  have g1 : (upd (upd H p (.tup [vx, vy])) sa (.dK (putK sp (.inr n) (.ref p)))) sa = some (.dK (putK sp (.inr n) (.ref p))) := upd_same
  have g2 : (upd (upd H p (.tup [vx, vy])) sa (.dK (putK sp (.inr n) (.ref p)))) k = some (.dK kp) := by rw [upd_ne (Ne.symm ne1)]; exact h2
  have g3 : (upd (upd H p (.tup [vx, vy])) sa (.dK (putK sp (.inr n) (.ref p)))) j = some (.dK jt) := by rw [upd_ne (Ne.symm ne2)]; exact h3
  refine ⟨_, rfl, a, _, dx, _, .ref k, rfl, s.s3 _ _ g0, T.cl_Frame, T.a_Frame_kept, rfl, _, rfl, k, _, rfl, DPut.k (k := .inr n) (s.s3 _ _ g2) (by rw [lkp, sizeLine_eq]; omega), ?_⟩
  refine q H2 _ (st.s1.trans s.s1) (same_mut s.s2 (step_none s n2 g2)) ⟨dx, sa, k, j, putK sp (.inr n) (.ref p), putK kp (.inr n) v, jt, ?_, ?_, upd_same, ?_, ?_, ?_, ?_, step_none s n0 g0, step_none s n1 g1, step_none s n2 g2, step_none s n3 g3, ne1, ne2, ne3⟩
  · rw [upd_ne ak]
    exact s.s3 _ _ g0
  · rw [upd_ne ne1]
    exact s.s3 _ _ g1
  · rw [upd_ne (Ne.symm ne3)]
    exact s.s3 _ _ g3
  · have h := (e1.mono s.s1).new (k := .inr n) (x := spotD ⟨n, x, y, ws⟩) (.tup (SqT.of (s.s1 _ _ upd_same)) (.cons ((d1.mono st.s1).mono s.s1) (.cons ((d2.mono st.s1).mono s.s1) .nil))) (by rw [spots_val, hn]; rfl)
    have ee : spotsD (F.addPin ⟨n, x, y, ws⟩) = spotsD F ++ [(.inr n, spotD ⟨n, x, y, ws⟩)] := by unfold spotsD Frm.addPin; rw [List.map_append]; rfl
    rw [ee]
    exact h
  · have h := (e2.mono s.s1).new (k := .inr n) dv (by rw [kept_val, hn]; rfl)
    have ee : keptD (F.addPin ⟨n, x, y, ws⟩) = keptD F ++ [(.inr n, waysD ws)] := by unfold keptD Frm.addPin; rw [List.map_append]; rfl
    rw [ee]
    exact h
  · exact e3.mono s.s1
def Sp_put (S : Sys) : Sp := fun vs H Q _ => ∃ H1 a F n vx vy vh x y ws, vs = [.ref a, .str n, vx, vy, vh] ∧ Same H1 H ∧ Dt S H1 vx (num x) ∧ Dt S H1 vy (num y) ∧ holdAt S H1 vh ws ∧ FrP S H1 H a F ∧ F.pinAt n = none ∧ (∀ p ∈ F.pins, ¬ (p.x, p.y) = (x, y)) ∧ F.pins.length < 24 ∧
  ∀ H2 H', Same H1 H2 → Same H2 H' → FrP S H2 H' a (F.addPin ⟨n, x, y, ws⟩) → Q .non H'
theorem ok_Frame_put_pin (T : Txt K mg) (B : Bas Pr base) : FnOk Pr w K mg base CX0 41 (He.ma K (He.ga K "Frame") "put_pin") (fdAt K (He.ma K (He.ga K "Frame") "put_pin")) ["self", "name", "x", "y", "hold"] (Sp_put (sysOf K)) := by
  obtain ⟨tP, g_MOST_PINS⟩ := T.x_MOST_PINS
  refine FunD.ok T.F_Frame_put_pin sc_Frame_put_pin (fun vs H Q E h => ?_) (fun cdv A outer s H vs Q E hr h => ?_)
  · obtain ⟨H1, a, F, n, vx, vy, vh, x, y, ws, rfl, _⟩ := h
    rfl
  · obtain ⟨H1, a, F, n, vx, vy, vh, x, y, ws, rfl, e, d1, d2, hh, fp, hn, hno, hl, q⟩ := h
    refine ⟨_, PSs.nox (pss_cons (ps_if (pt_cmp (pc_din (hu_of hr) (pv 1) (pe_fld (pv 0) rfl))) (pss_one ps_never) pss_nil) (pss_cons (ps_set (i := 5) (sc_Frame_put_pin).nd rfl (Or.inl rfl) (pe_meth (pv 0) T.cl_Frame T.m_Frame_pin_at (ok_Frame_pin_at T B) (hr.mono (by decide)) T.b_Frame_pin_at .nil pass0 (pa_cons (pv 2) (pa_cons (pv 3) pa_nil)))) (pss_cons (ps_if (pt_cmpR op_notN (pv 5) pe_non (nomark _)) (pss_one ps_never) pss_nil) (pss_cons (ps_if (pt_cmpR op_ge (pe_callB call_lenD (by rfl) T.n_len (by decide +kernel) (pa_cons (pe_fld (pv 0) rfl) pa_nil)) (pe_glob (v := .int 24) rfl g_MOST_PINS ⟨_, rfl⟩) (nomark _)) (pss_one ps_never) pss_nil) (pss_cons (ps_if (pt_cmpR op_isN (pv 4) pe_non (nomark _)) (pss_one (ps_set (i := 4) (sc_Frame_put_pin).nd rfl (Or.inl rfl) (pe_makeN T.mn_Hold rfl T.g_Hold))) pss_nil) (pss_cons (ps_dput (hu_of hr) (pe_fld (pv 0) rfl) (pv 1) (pe_tup (pa_cons (pv 2) (pa_cons (pv 3) pa_nil))) rfl) (pss_one (ps_dput (hu_of hr) (pe_fld (pv 0) rfl) (pv 1) (pe_or3 (pe_meth0 (pv 4) T.cl_Hold T.m_Hold_ways (ok_Hold_ways T B) (hr.mono (by decide)) T.b_Hold_ways .nil pass0) (pe_meth0 (pv 4) T.cl_Roller T.m_Roller_ways (ok_Roller_ways T B) (hr.mono (by decide)) T.b_Roller_ways .nil pass0) (pe_meth0 (pv 4) T.cl_Fixed T.m_Fixed_ways (ok_Fixed_ways T B) (hr.mono (by decide)) T.b_Fixed_ways .nil pass0)) rfl)))))))), ?_⟩
    have sv : (valD (spotsD F) (.inr n)).isSome = false := by
      rw [spots_val, hn]
      rfl
    obtain ⟨Hf, f1, f2, fd⟩ := fp.dt e
    obtain ⟨hd, hdd, hdc⟩ := holdAt_dat hh
    have En : ∀ {Hx : Hp}, Same H1 Hx → Dt (sysOf K) Hx (.ref a) (.frm F) → EnvD (sysOf K) Hx (L2.start ["self", "name", "x", "y", "hold", "there"] [.ref a, .str n, vx, vy, vh]) [some (.frm F), some (.str n), some (num x), some (num y), some hd, none] := fun sx df => env_start (ds := [.frm F, .str n, num x, num y, hd]) (.cons df (.cons (.str _) (.cons (d1.mono sx) (.cons (d2.mono sx) (.cons (hdd.mono sx) .nil)))))
    refine raw_ifn (G := [some (.frm F), some (.str n), some (num x), some (num y), some hd, none]) (et_B ((ed_din (k := .inr n) (ed_var (i := 1) rfl) (ed_spots T (ed_var (i := 0) rfl))).to (by rw [sv]))) f2 (En f1 fd) fun H2 H' s2 => ?_
    have fp2 := fp.keep s2.s3
    have e2 : Same H1 H' := f1.trans (s2.s1.trans s2.s2)
    obtain ⟨dx, sa, k, j, sp, kp, jt, h0, h1, h2, h3, _⟩ := fp2.ex
    refine raw_set ?_
    refine ⟨_, rfl, a, dx, _, rfl, h0, rfl, ?_⟩
    refine ⟨_, rfl, _, rfl, ?_⟩
    refine ⟨H1, a, F, vx, vy, x, y, rfl, e2, d1, d2, fp2, hno, fun H3 H3' s3 => ?_⟩
    have fp3 := fp2.step s3
    obtain ⟨Hg, g1, g2, gd⟩ := fp3.dt s3.s2
    have En3 : EnvD (sysOf K) Hg _ [some (.frm F), some (.str n), some (num x), some (num y), some hd, some .non] := (En (s3.s1.trans g1) gd).set (i := 5) .non
    refine raw_ifn (et_test (ed_op (ed_var (i := 5) rfl) ed_non (rv_notN (b := false) fun H v h => by cases h; rfl))) g2 En3 fun H4 H4' s4 => ?_
    have el : (spotsD F).length = F.pins.length := by unfold spotsD; simp
    refine raw_ifn ((et_test (ed_op (ed_cb (ea_cons (ed_spots T (ed_var (i := 0) rfl)) ea_nil) rc_lenD) ed_int rv_ge)).to (decide_eq_false (by rw [el]; omega))) s4.s2 (En3.mono s4.s1) fun H5 H5' s5 => ?_
    have fp5 := (fp3.keep s4.s3).keep s5.s3
    have e5 : Same H3 H5' := g1.trans (s4.s1.trans (s5.s1.trans s5.s2))
    have hh5 := holdAt_mono s3.s1 hh
    have d15 := d1.mono s3.s1
    have d25 := d2.mono s3.s1
    rcases hdc with ⟨rfl, rfl⟩ | ⟨b, rfl, rfl⟩
    · have ews : ws = [] := by
        rcases hh with ⟨_, h⟩ | ⟨b, dx, f, h1, _⟩ | ⟨b, dx, f, h1, _⟩ | ⟨b, dx, f, h1, _⟩
        · exact h
        all_goals cases h1
      subst ews
      refine raw_ify (et_test (ed_op (ed_var (i := 4) rfl) ed_non (rv_isN (b := true) fun H v h => by cases h; rfl))) s5.s2 ((En3.mono s4.s1).mono s5.s1) fun H6 H6' s6 => ?_
      refine fun hb dxb hhb hdb nb => ?_
      have sk := step_make (C := He.ga K "Hold") ((e5.trans s6.s3)) hhb hdb nb
      have fp6 := (fp5.keep s6.s3).step sk
      exact put_tail T sk.s2 (d15.mono sk.s1) (d25.mono sk.s1) (.inr (.inl ⟨hb, dxb, [], rfl, upd_same, rfl, rfl⟩)) (fun z => by cases z) fp6 hn hl fun H7 H7' s7 s7' fp7 => q H7 H7' (s3.s1.trans (sk.s1.trans s7)) s7' fp7
    · refine raw_ifn (et_test (ed_op (ed_var (i := 4) rfl) ed_non (rv_isN (b := false) fun H v h => by cases h; rfl))) s5.s2 ((En3.mono s4.s1).mono s5.s1) fun H6 H6' s6 => ?_
      exact put_tail T (e5.trans s6.s3) d15 d25 hh5 (fun z => by cases z) (fp5.keep s6.s3) hn hl fun H7 H7' s7 s7' fp7 => q H7 H7' (s3.s1.trans s7) s7' fp7
end
end Ty
set_option Elab.async false
set_option linter.all false
set_option maxRecDepth 100000
set_option maxHeartbeats 4000000
/-! put_bar, _law_frame. -/
namespace Ty
open PySem PySem.Spec PyProof.Rows L2
section
variable {Pr : Program} {w : World} {K : PySem.W.Frag} {mg : Str → Option Value} {base : Heap}
def Sp_put_bar (S : Sys) : Sp := fun vs H Q _ => ∃ H1 a F n x y, vs = [.ref a, .str n, .str x, .str y] ∧ Same H1 H ∧ FrP S H1 H a F ∧ askOf F n x y = none ∧ ∀ H2 H', Same H1 H2 → Same H2 H' → FrP S H2 H' a (F.addBar (n, x, y)) → Q .non H'
theorem ok_Frame_put_bar (T : Txt K mg) (B : Bas Pr base) (X : Exq K) : FnOk Pr w K mg base CX0 43 (He.ma K (He.ga K "Frame") "put_bar") (fdAt K (He.ma K (He.ga K "Frame") "put_bar")) ["self", "name", "one", "other"] (Sp_put_bar (sysOf K)) := by
  refine FunD.ok T.F_Frame_put_bar sc_Frame_put_bar (fun vs H Q E h => ?_) (fun cdv A outer s H vs Q E hr h => ?_)
  · obtain ⟨H1, a, F, n, x, y, rfl, _⟩ := h
    rfl
  · obtain ⟨H1, a, F, n, x, y, rfl, e, fp, ha, q⟩ := h
    refine ⟨_, PSs.nox (pss_cons (ps_expr (pe_meth (pv 0) T.cl_Frame T.m_Frame_ask_bar (ok_Frame_ask_bar T B X) (hr.mono (by decide)) T.b_Frame_ask_bar .nil passF (pa_cons (pv 1) (pa_cons (pv 2) (pa_cons (pv 3) pa_nil))))) (pss_one (ps_dput (hu_of hr) (pe_fld (pv 0) rfl) (pv 1) (pe_tup (pa_cons (pv 2) (pa_cons (pv 3) pa_nil))) rfl))), ?_⟩
    obtain ⟨Hf, f1, f2, fd⟩ := fp.dt e
    have En : EnvD (sysOf K) Hf (L2.start ["self", "name", "one", "other"] [.ref a, .str n, .str x, .str y]) [some (.frm F), some (.str n), some (.str x), some (.str y)] := env_start (ds := [.frm F, .str n, .str x, .str y]) (.cons fd (.cons (.str _) (.cons (.str _) (.cons (.str _) .nil))))
    refine raw_drop (ed_meth_raw (ed_var (i := 0) rfl) (ea_cons (ed_var (i := 1) rfl) (ea_cons (ed_var (i := 2) rfl) (ea_cons (ed_var (i := 3) rfl) ea_nil))) (by decide +kernel) (by decide +kernel) (by decide +kernel) _ Hf H f2 En _ fun H2 H' vs s dvs => ?_)
    refine ⟨H2, F, n, x, y, s.s2, dvs, fun _ H3 H'' s3 => ?_, fun er he => by rw [ha] at he; cases he⟩
    have st := s.trans s3
    have fp3 := fp.keep st.s3
    have e3 : Same H1 H'' := e.trans st.s3
    refine ⟨_, rfl, _, rfl, Nat.le_of_ble_eq_true rfl, fun p hp => ?_⟩
    have s4 := Step.new (o := .tup [V.str x, V.str y]) e3 hp
    obtain ⟨dx, sa, k, j, sp, kp, jt, h0, h1, h2, h3, e1, e2, e3', n0, n1, n2, n3, ne1, ne2, ne3⟩ := (fp3.step s4).ex
    have aj : a ≠ j := fun z => by rw [z, h3] at h0; cases h0
    obtain ⟨hnb, _, _, _, hlt⟩ := ask_none ha
    have ljt : jt.length = F.bars.length := by rw [e3'.length]; unfold jointsD; simp
    refine ⟨_, rfl, a, _, dx, _, .ref j, rfl, h0, T.cl_Frame, T.a_Frame_joints, rfl, _, rfl, j, _, rfl, DPut.k (k := .inr n) h3 (by rw [ljt, sizeLine_eq]; omega), ?_⟩
    refine q _ _ s4.s1 (same_mut s4.s2 n3) ⟨dx, sa, k, j, sp, kp, putK jt (.inr n) (.ref p), ?_, ?_, ?_, upd_same, e1, e2, ?_, n0, n1, n2, n3, ne1, ne2, ne3⟩
    · rw [upd_ne aj]
      exact h0
    · rw [upd_ne ne2]
      exact h1
    · rw [upd_ne ne3]
      exact h2
    · have h := e3'.new (k := .inr n) (x := .tup [.str x, .str y]) (.tup (SqT.of upd_same) (.cons (.str _) (.cons (.str _) .nil))) (by rw [joints_val, hnb]; rfl)
      have ee : jointsD (F.addBar (n, x, y)) = jointsD F ++ [(.inr n, .tup [.str x, .str y])] := by unfold jointsD Frm.addBar; rw [List.map_append]; rfl
      rw [ee]
      exact h
end
/-! runs beside a frame that stands apart -/
def RunF (S : Sys) (ts : TS) (a : Addr) (G : Gam) (F : Frm) (P : Gam → Frm → Prop) : Prop := ∀ σ H1 H (Ds : Ends), Same H1 H → EnvD S H1 σ G → FrP S H1 H a F → (∀ G' F' σ' H2 H', P G' F' → Same H1 H2 → Same H2 H' → EnvD S H2 σ' G' → FrP S H2 H' a F' → Ds.nx σ' H') → ts Ds σ H
section
variable {S : Sys} {t u : TS} {a : Addr} {G : Gam} {F : Frm} {P : Gam → Frm → Prop} {c : TT} {b : Bool} {te : TE}
theorem rf_seq (h : RunF S t a G F (fun G' F' => RunF S u a G' F' P)) : RunF S (tSeq t u) a G F P := fun σ H1 H Ds e E fp q =>
  h σ H1 H { Ds with nx := u Ds } e E fp fun G' F' σ' H2 H' r s1 s2 E' fp' => r σ' H2 H' Ds s2 E' fp' fun G3 F3 σ3 H3 H3' p t1 t2 => q G3 F3 σ3 H3 H3' p (s1.trans t1) t2
theorem rf_if (h : EvT S c G b) (h1 : b = true → RunF S t a G F P) (h2 : b = false → RunF S u a G F P) : RunF S (tIfS c t u) a G F P := fun σ H1 H Ds e E fp q =>
  h σ H1 H e E _ fun H2 H' s => by
    cases b with
    | true => exact iteT (h1 rfl σ H2 H' Ds s.s2 (E.mono s.s1) (fp.step s) fun G3 F3 σ3 H3 H3' p t1 t2 => q G3 F3 σ3 H3 H3' p (s.s1.trans t1) t2)
    | false => exact iteF (h2 rfl σ H2 H' Ds s.s2 (E.mono s.s1) (fp.step s) fun G3 F3 σ3 H3 H3' p t1 t2 => q G3 F3 σ3 H3 H3' p (s.s1.trans t1) t2)
theorem rf_next (p : P G F) : RunF S tNext a G F P := fun σ H1 H Ds e E fp q => q G F σ H1 H p (Same.refl _) e E fp
theorem rf_for_list {g : TG} {ds : List Dat} (hl : EvD S te G (.lst ds)) (I : Nat → Gam → Frm → Prop) (h0 : I 0 G F)
    (hs : ∀ (k : Nat) (d : Dat) (G : Gam) (F : Frm), ds[k]? = some d → I k G F → ∃ G', TgD S g d G G' ∧ RunF S t a G' F (I (k + 1))) (hd : ∀ G F, I ds.length G F → P G F) : RunF S (tFor (iList S.K te) g t) a G F P := fun σ H1 H Ds e E fp q => by
  refine hl σ H1 H e E _ fun H2 H' v s dv => ?_
  cases dv with
  | @lst l xs _ ha hA =>
    refine ⟨l, rfl, ⟨xs, SqL.of (s.s2 _ _ ha)⟩, for_list (K := S.K) (a := l) (xs := xs) (fun i σ3 H3 => ∃ H4 G3 F3, Same H2 H4 ∧ Same H4 H3 ∧ EnvD S H4 σ3 G3 ∧ FrP S H4 H3 a F3 ∧ I i G3 F3) ⟨H2, G, F, Same.refl _, s.s2, E.mono s.s1, fp.step s, h0⟩ (fun i σ3 H3 _ ⟨H4, G3, F3, s3, s4, _⟩ => SqL.of (s4 _ _ (s3 _ _ ha))) ?_ ?_⟩
    · rintro i x σ3 H3 hx ⟨H4, G3, F3, s3, s4, E3, fp3, i3⟩
      obtain ⟨d, hd', hv⟩ := hA.getV hx
      obtain ⟨G', tg, rb⟩ := hs i d G3 F3 hd' i3
      refine tg x σ3 H4 H3 s4 E3 (hv.mono s3) _ fun σ4 E4 => ?_
      exact rb σ4 H4 H3 _ s4 E4 fp3 fun G5 F5 σ5 H5 H5' i5 t1 t2 E5 fp5 => ⟨H5, G5, F5, s3.trans t1, t2, E5, fp5, i5⟩
    · rintro σ3 H3 ⟨H4, G3, F3, s3, s4, E3, fp3, i3⟩
      rw [hA.length] at i3
      exact q G3 F3 σ3 H4 H3 (hd G3 F3 i3) (s.s1.trans s3) s4 E3 fp3
/-- a reading that makes a hold -/
def HoldE (S : Sys) (te : TE) (G : Gam) (ws : List (Num × Num)) : Prop := ∀ σ H1 H, Same H1 H → EnvD S H1 σ G → ∀ Q : VK, (∀ H2 H' v, Step H1 H H2 H' → holdAt S H2 v ws → Q v H') → te σ H Q
theorem he_fixed : HoldE S (tMakeN (He.ga S.K "Fixed")) G fixedW := fun σ H1 H e E Q q x dx hx hd ne =>
  q _ _ _ (step_make e hx hd ne) (.inr (.inr (.inr ⟨x, dx, [], rfl, upd_same, rfl, rfl⟩)))
theorem he_roller {ta tb : TE} {x y : Num} (h1 : EvD S ta G (num x)) (h2 : EvD S tb G (num y)) (hn : ¬ (x.1 = 0 ∧ y.1 = 0)) : HoldE S (tMake (He.ga S.K "Roller") (Sp_roll S) [] E0 (tCons ta (tCons tb tNil))) G [(x, y)] := fun σ H1 H e E Q q => by
  unfold tMake
  refine (ea_cons h1 (ea_cons h2 ea_nil)) σ H1 H e E _ fun H2 H' vs s dv => ?_
  cases dv with
  | cons d1 t1 =>
    cases t1 with
    | cons d2 t2 =>
      cases t2
      intro b dx hb hd ne
      have sk := step_make (C := He.ga S.K "Roller") s.s2 hb hd ne
      have bn := s.s2.free hb
      refine ⟨H2, b, dx, _, _, x, y, rfl, ?_, upd_same, bn, d1, d2, hn, fun H3 H'' f s1 s2 hc hb3 hr hfr => ⟨rfl, ?_⟩⟩
      · intro c o hc
        have z : c ≠ b := fun z => by rw [z, bn] at hc; cases hc
        have z2 : c ≠ dx := fun z => by rw [z, s.s2.free hd] at hc; cases hc
        rw [upd_ne z, upd_ne z2]
        exact s.s2 _ _ hc
      · refine q H3 H'' _ (s.trans ⟨s1, s2, fun c o hc' => ?_, fun c o hc' => ?_⟩) (.inr (.inr (.inl ⟨b, dx, f, rfl, hb3, hr⟩)))
        · have z : c ≠ b := fun z => by rw [z, hb] at hc'; cases hc'
          have z2 : c ≠ dx := fun z => by rw [z, hd] at hc'; cases hc'
          exact hc c o z (by rw [upd_ne z, upd_ne z2]; exact hc')
        · rcases hfr c o hc' with r | r | rfl
          · exact .inl r
          · by_cases z : c = b
            · subst z
              exact .inr hb
            · rw [upd_ne z] at r
              by_cases z2 : c = dx
              · subst z2
                exact .inr hd
              · rw [upd_ne z2] at r
                exact .inr r
          · exact .inr hb
theorem put_raw {dvs : List V} {E0 : XK} {i : Nat} {ta : TA} {σ : L2.St} {H : Hp} {Q : VK} {dx s k j : Addr} {sp : Sp} {m : Str} (hi : σ[i]? = some (some (.ref a))) (h0 : H a = some (.ins S.CF dx (fflds s k j))) (h1 : ¬ m = "spots") (h2 : ¬ m = "kept") (h3 : ¬ m = "joints") (q : ta σ H fun vs H2 => sp (.ref a :: (vs ++ dvs)) H2 Q E0) :
    tMeth S.CF m sp dvs E0 (tVar i) ta σ H Q := ⟨_, hi, a, dx, _, rfl, h0, fflds_no h1 h2 h3, q⟩
theorem rf_put3 {E0 : XK} {i : Nat} {t1 t2 t3 : TE} {n : Str} {x y : Num} (hi : G[i]? = some (some (.ptr a))) (e1 : EvD S t1 G (.str n)) (e2 : EvD S t2 G (num x)) (e3 : EvD S t3 G (num y)) (hn : F.pinAt n = none) (hno : ∀ p ∈ F.pins, ¬ (p.x, p.y) = (x, y)) (hl : F.pins.length < 24)
    (p : P G (F.addPin ⟨n, x, y, []⟩)) : RunF S (tDrop (tMeth S.CF "put_pin" (Sp_put S) [.non] E0 (tVar i) (tCons t1 (tCons t2 (tCons t3 tNil))))) a G F P := fun σ H1 H Ds e E fp q => by
  obtain ⟨v, hv1, hv2⟩ := E.at_ i _ hi
  cases hv2
  obtain ⟨dx, s, k, j, sp, kp, jt, h0, _⟩ := fp.ex
  refine put_raw (S := S) (a := a) hv1 h0 (by decide +kernel) (by decide +kernel) (by decide +kernel) ?_
  refine (ea_cons e1 (ea_cons e2 (ea_cons e3 ea_nil))) σ H1 H e E _ fun H2 H' vs s dv => ?_
  cases dv with
  | cons d1 t1 =>
    cases t1 with
    | cons d2 t2 =>
      cases t2 with
      | cons d3 t3 =>
        cases t3
        cases d1
        exact ⟨H2, a, F, n, _, _, .non, x, y, [], rfl, s.s2, d2, d3, .inl ⟨rfl, rfl⟩, fp.step s, hn, hno, hl, fun H3 H'' s1 s2 fp' => q G _ σ H3 H'' p (s.s1.trans s1) s2 (E.mono (s.s1.trans s1)) fp'⟩
theorem rf_put4 {E0 : XK} {i : Nat} {t1 t2 t3 t4 : TE} {n : Str} {x y : Num} {ws : List (Num × Num)} (hi : G[i]? = some (some (.ptr a))) (e1 : EvD S t1 G (.str n)) (e2 : EvD S t2 G (num x)) (e3 : EvD S t3 G (num y)) (e4 : HoldE S t4 G ws) (hn : F.pinAt n = none) (hno : ∀ p ∈ F.pins, ¬ (p.x, p.y) = (x, y)) (hl : F.pins.length < 24)
    (p : P G (F.addPin ⟨n, x, y, ws⟩)) : RunF S (tDrop (tMeth S.CF "put_pin" (Sp_put S) [] E0 (tVar i) (tCons t1 (tCons t2 (tCons t3 (tCons t4 tNil)))))) a G F P := fun σ H1 H Ds e E fp q => by
  obtain ⟨v, hv1, hv2⟩ := E.at_ i _ hi
  cases hv2
  obtain ⟨dx, s, k, j, sp, kp, jt, h0, _⟩ := fp.ex
  refine put_raw (S := S) (a := a) hv1 h0 (by decide +kernel) (by decide +kernel) (by decide +kernel) ?_
  refine ta_cons (e1 σ H1 H e E _ fun H2 H' v1 s1 d1 => ta_cons (e2 σ H2 H' s1.s2 (E.mono s1.s1) _ fun H3 H3' v2 s2 d2 => ta_cons (e3 σ H3 H3' s2.s2 (E.mono (s1.s1.trans s2.s1)) _ fun H4 H4' v3 s3 d3 => ta_cons (e4 σ H4 H4' s3.s2 (E.mono ((s1.s1.trans s2.s1).trans s3.s1)) _ fun H5 H5' v4 s4 hh => ?_))))
  have st := ((s1.trans s2).trans s3).trans s4
  cases d1
  exact ⟨H5, a, F, n, _, _, v4, x, y, ws, rfl, st.s2, d2.mono (s3.s1.trans s4.s1), d3.mono s4.s1, hh, fp.step st, hn, hno, hl, fun H6 H6' t1 t2 fp' => q G _ σ H6 H6' p (st.s1.trans t1) t2 (E.mono (st.s1.trans t1)) fp'⟩
theorem rf_bar {E0 : XK} {i : Nat} {t1 t2 t3 : TE} {n x y : Str} (hi : G[i]? = some (some (.ptr a))) (e1 : EvD S t1 G (.str n)) (e2 : EvD S t2 G (.str x)) (e3 : EvD S t3 G (.str y)) (ha : askOf F n x y = none)
    (p : P G (F.addBar (n, x, y))) : RunF S (tDrop (tMeth S.CF "put_bar" (Sp_put_bar S) [] E0 (tVar i) (tCons t1 (tCons t2 (tCons t3 tNil))))) a G F P := fun σ H1 H Ds e E fp q => by
  obtain ⟨v, hv1, hv2⟩ := E.at_ i _ hi
  cases hv2
  obtain ⟨dx, s, k, j, sp, kp, jt, h0, _⟩ := fp.ex
  refine put_raw (S := S) (a := a) hv1 h0 (by decide +kernel) (by decide +kernel) (by decide +kernel) ?_
  refine (ea_cons e1 (ea_cons e2 (ea_cons e3 ea_nil))) σ H1 H e E _ fun H2 H' vs s dv => ?_
  cases dv with
  | cons d1 t1 =>
    cases t1 with
    | cons d2 t2 =>
      cases t2 with
      | cons d3 t3 =>
        cases t3
        cases d1
        cases d2
        cases d3
        exact ⟨H2, a, F, n, x, y, rfl, s.s2, fp.step s, ha, fun H3 H'' s1 s2 fp' => q G _ σ H3 H'' p (s.s1.trans s1) s2 (E.mono (s.s1.trans s1)) fp'⟩
end
end Ty
set_option Elab.async false
set_option linter.all false
set_option maxRecDepth 100000
set_option maxHeartbeats 4000000
/-! _law_frame. -/
namespace Ty
open PySem PySem.Spec PyProof.Rows L2
abbrev LBar := Str × Nat × Nat
def pinT (p : Pin) : Dat := .tup [.str p.name, spotD p, waysD p.ways]
def pinsT (ps : List Pin) : Dat := .lst (ps.map pinT)
def barT (b : LBar) : Dat := .tup [.str b.1, .int b.2.1, .int b.2.2]
def barsT (bs : List LBar) : Dat := .lst (bs.map barT)
def nameAt (ps : List Pin) (i : Nat) : Str := (ps.getD i nilPin).name
def barF (ps : List Pin) (b : LBar) : Str × Str × Str := (b.1, nameAt ps b.2.1, nameAt ps b.2.2)
def frameOf (ps : List Pin) (bs : List LBar) : Frm := ⟨ps, bs.map (barF ps)⟩
def WaysOk (ws : List (Num × Num)) : Prop := ws = [] ∨ ws = fixedW ∨ ∃ w, ws = [w] ∧ ¬ (w.1.1 = 0 ∧ w.2.1 = 0)
structure LOk (ps : List Pin) (bs : List LBar) : Prop where
  pn : (ps.map Pin.name).Nodup
  sn : (ps.map fun p => (p.x, p.y)).Nodup
  pl : ps.length ≤ 5
  wk : ∀ p ∈ ps, WaysOk p.ways
  gd : ∀ p ∈ ps, Good 64 p.x ∧ Good 64 p.y ∧ ∀ w ∈ p.ways, Good 64 w.1 ∧ Good 64 w.2
  bn : (bs.map (·.1)).Nodup
  bi : ∀ b ∈ bs, b.2.1 < ps.length ∧ b.2.2 < ps.length ∧ b.2.1 ≠ b.2.2
  bl : bs.length ≤ 59
theorem pinAt_ix {ps : List Pin} {bs : List (Str × Str × Str)} (h : (ps.map Pin.name).Nodup) {i : Nat} (hi : i < ps.length) : (Frm.mk ps bs).pinAt (nameAt ps i) = some (ps.getD i nilPin) := pinAt_of (F := ⟨ps, bs⟩) h (getD_mem hi)
theorem name_inj {ps : List Pin} (h : (ps.map Pin.name).Nodup) {i j : Nat} (hi : i < ps.length) (hj : j < ps.length) (e : nameAt ps i = nameAt ps j) : i = j := by
  have n1 : (ps.map Pin.name)[i]? = some (nameAt ps i) := by
    unfold nameAt
    rw [List.getElem?_map, List.getD_eq_getElem?_getD, List.getElem?_eq_getElem hi]
    rfl
  have n2 : (ps.map Pin.name)[j]? = some (nameAt ps j) := by
    unfold nameAt
    rw [List.getElem?_map, List.getD_eq_getElem?_getD, List.getElem?_eq_getElem hj]
    rfl
  rw [← e] at n2
  exact (List.getElem?_inj (by rw [List.length_map]; exact hi) h).mp (n1.trans n2.symm)
theorem find_none_of {α : Type} (f : α → Str) {l : List α} {k : Nat} {a : α} (h : (l.map f).Nodup) (hk : l[k]? = some a) : ((l.take k).find? fun b => decide (f b = f a)) = none := by
  refine List.find?_eq_none.mpr fun b hb => ?_
  rw [split_at hk, List.map_append, List.map_cons] at h
  obtain ⟨_, _, h3⟩ := List.nodup_append.mp h
  have := h3 (f b) (List.mem_map.mpr ⟨b, hb, rfl⟩) (f a) List.mem_cons_self
  simpa using this
theorem LOk.frm {ps : List Pin} {bs : List LBar} (h : LOk ps bs) : FrmOk (frameOf ps bs) := by
  refine ⟨h.pn, ?_, fun b hb => ?_, by show ps.length ≤ 24; have := h.pl; omega, by show (bs.map _).length ≤ 60; rw [List.length_map]; have := h.bl; omega, fun p hp => ?_, h.gd⟩
  · have : ((frameOf ps bs).bars.map (·.1)) = bs.map (·.1) := by
      unfold frameOf
      dsimp only
      rw [List.map_map]
      rfl
    rw [this]
    exact h.bn
  · obtain ⟨x, hx, rfl⟩ := List.mem_map.mp hb
    obtain ⟨h1, h2, _⟩ := h.bi x hx
    exact ⟨⟨_, pinAt_ix h.pn h1⟩, ⟨_, pinAt_ix h.pn h2⟩⟩
  · rcases h.wk p hp with e | e | ⟨w, e, _⟩ <;> rw [e]
    · exact Nat.zero_le _
    · exact Nat.le_refl _
    · exact Nat.le_of_ble_eq_true rfl
theorem ask_bar_ok {ps : List Pin} {bs : List LBar} (h : LOk ps bs) {k : Nat} {b : LBar} (hk : bs[k]? = some b) : askOf ⟨ps, (bs.take k).map (barF ps)⟩ b.1 (nameAt ps b.2.1) (nameAt ps b.2.2) = none := by
  obtain ⟨h1, h2, h3⟩ := h.bi b (get_mem hk)
  have hkl := (List.getElem?_eq_some_iff.mp hk).1
  have hbl := h.bl
  unfold askOf
  rw [if_neg, if_neg, if_neg, if_neg, if_neg]
  · rw [List.length_map, List.length_take]
    omega
  · exact fun e => h3 (name_inj h.pn h1 h2 e)
  · rw [pinAt_ix h.pn h2]
    exact fun z => by cases z
  · rw [pinAt_ix h.pn h1]
    exact fun z => by cases z
  · have e : (Frm.mk ps ((bs.take k).map (barF ps))).barAt b.1 = none := by
      unfold Frm.barAt
      dsimp only
      rw [List.find?_map]
      have := find_none_of (fun b : LBar => b.1) h.bn hk
      have e2 : (bs.take k).find? ((fun b_1 : Str × Str × Str => decide (b_1.fst = b.fst)) ∘ barF ps) = none := this
      rw [e2]
      rfl
    rw [e]
    decide
section
variable {Pr : Program} {w : World} {K : PySem.W.Frag} {mg : Str → Option Value} {base : Heap}
def Sp_law_frame (S : Sys) : Sp := fun vs H Q _ => ∃ H1 ps bs, Same H1 H ∧ DtA S H1 vs [pinsT ps, barsT bs] ∧ LOk ps bs ∧ ∀ H2 H' a, Same H1 H2 → Same H2 H' → FrP S H2 H' a (frameOf ps bs) → Q (.ref a) H'
theorem ok_law_frame (T : Txt K mg) (B : Bas Pr base) (X : Exq K) : FnOk Pr w K mg base CX0 44 (He.ga K "_law_frame") (fdAt K (He.ga K "_law_frame")) ["_law_pins_here", "_law_bars_here"] (Sp_law_frame (sysOf K)) := by
  refine FunD.ok T.F_law_frame sc_law_frame (fun vs H Q E h => ?_) (fun cdv A outer s H vs Q E hr h => ?_)
  · obtain ⟨H1, ps, bs, _, dv, _⟩ := h
    exact dv.length
  · obtain ⟨H1, ps, bs, e, dv, ok, q⟩ := h
    obtain ⟨dD, vD, bD⟩ := T.F_Frame_put_pin.binds1 (ps := ["self", "name", "x", "y", "hold"]) 4 0 (by simp) rfl (fun T kV doc pm an cdv ct us its hl hi => match us, hl, its, hi with | [_, _, _, _], _, [_], _ => ⟨_, rfl, rfl⟩)
    replace vD : Vals [V.non] dD := vD
    refine ⟨_, PSs.nox (pss_cons (ps_set (i := 2) (sc_law_frame).nd rfl (Or.inl rfl) (pe_make0 T.mk_Frame (ok_Frame_init T B) (hr.mono (by decide)) rfl T.g_Frame T.b_Frame_init .nil pass0)) (pss_cons (ps_for PassesOwn.never rfl (pi_list (pv 0)) (pg_tup rfl (pgs_cons (pg_name (i := 3) (sc_law_frame).nd rfl (Or.inl rfl)) (pgs_cons (pg_name (i := 4) (sc_law_frame).nd rfl (Or.inl rfl)) (pgs_cons (pg_name (i := 5) (sc_law_frame).nd rfl (Or.inl rfl)) pgs_nil)))) (pss_cons (ps_if (pt_cmpR op_eq (pe_callB call_len_seq (by rfl) T.n_len (by decide +kernel) (pa_cons (pv 5) pa_nil)) pe_int (nomark _)) (pss_one (ps_expr (pe_meth (pv 2) T.cl_Frame T.m_Frame_put_pin (ok_Frame_put_pin T B) (hr.mono (by decide)) bD vD pass0 (pa_cons (pv 3) (pa_cons (pe_ix ix_tup (pv 4) pe_int (fun _ _ => rfl)) (pa_cons (pe_ix ix_tup (pv 4) pe_int (fun _ _ => rfl)) pa_nil)))))) pss_nil) (pss_cons (ps_if (pt_cmpR op_eq (pe_callB call_len_seq (by rfl) T.n_len (by decide +kernel) (pa_cons (pv 5) pa_nil)) pe_int (nomark _)) (pss_one (ps_expr (pe_meth (pv 2) T.cl_Frame T.m_Frame_put_pin (ok_Frame_put_pin T B) (hr.mono (by decide)) T.b_Frame_put_pin .nil pass0 (pa_cons (pv 3) (pa_cons (pe_ix ix_tup (pv 4) pe_int (fun _ _ => rfl)) (pa_cons (pe_ix ix_tup (pv 4) pe_int (fun _ _ => rfl)) (pa_cons (pe_make T.mk_Roller (ok_Roller_init T B) (hr.mono (by decide)) rfl T.g_Roller T.b_Roller_init .nil pass0 (pa_cons (pe_ix ix_tup (pe_ix ix_list (pv 5) pe_int (fun _ _ => rfl)) pe_int (fun _ _ => rfl)) (pa_cons (pe_ix ix_tup (pe_ix ix_list (pv 5) pe_int (fun _ _ => rfl)) pe_int (fun _ _ => rfl)) pa_nil))) pa_nil))))))) pss_nil) (pss_one (ps_if (pt_cmpR op_eq (pe_callB call_len_seq (by rfl) T.n_len (by decide +kernel) (pa_cons (pv 5) pa_nil)) pe_int (nomark _)) (pss_one (ps_expr (pe_meth (pv 2) T.cl_Frame T.m_Frame_put_pin (ok_Frame_put_pin T B) (hr.mono (by decide)) T.b_Frame_put_pin .nil pass0 (pa_cons (pv 3) (pa_cons (pe_ix ix_tup (pv 4) pe_int (fun _ _ => rfl)) (pa_cons (pe_ix ix_tup (pv 4) pe_int (fun _ _ => rfl)) (pa_cons (pe_makeN T.mn_Fixed rfl T.g_Fixed) pa_nil))))))) pss_nil))))) (pss_cons (ps_for PassesOwn.never rfl (pi_list (pv 1)) (pg_tup rfl (pgs_cons (pg_name (i := 3) (sc_law_frame).nd rfl (Or.inl rfl)) (pgs_cons (pg_name (i := 6) (sc_law_frame).nd rfl (Or.inl rfl)) (pgs_cons (pg_name (i := 7) (sc_law_frame).nd rfl (Or.inl rfl)) pgs_nil)))) (pss_one (ps_expr (pe_meth (pv 2) T.cl_Frame T.m_Frame_put_bar (ok_Frame_put_bar T B X) (hr.mono (by decide)) T.b_Frame_put_bar .nil pass0 (pa_cons (pv 3) (pa_cons (pe_ix ix_tup (pe_ix ix_list (pv 0) (pv 6) (fun _ _ => rfl)) pe_int (fun _ _ => rfl)) (pa_cons (pe_ix ix_tup (pe_ix ix_list (pv 0) (pv 7) (fun _ _ => rfl)) pe_int (fun _ _ => rfl)) pa_nil))))))) (pss_one (ps_ret (pv 2)))))), ?_⟩
    have E1 := env_start (N := ["_law_pins_here", "_law_bars_here", "_law_frame_here", "_law_name_here", "_law_spot_here", "_law_ways_here", "_law_one", "_law_other"]) dv
    refine raw_set fun a dx ha hd ne => ?_
    have sk := step_make (C := He.ga K "Frame") e ha hd ne
    have an := e.free ha
    have e1 : Same H1 (upd (upd H dx (.own a)) a (.ins (He.ga K "Frame") dx [])) := fun c o hc => by
      have z : c ≠ a := fun z => by rw [z, an] at hc; cases hc
      have z2 : c ≠ dx := fun z => by rw [z, e.free hd] at hc; cases hc
      rw [upd_ne z, upd_ne z2]
      exact e _ _ hc
    refine ⟨H1, a, dx, rfl, e1, an, upd_same, fun H' e2 fp => ⟨rfl, ?_⟩⟩
    have E2 : EnvD (sysOf K) H1 _ [some (pinsT ps), some (barsT bs), some (.ptr a), none, none, none, none, none] := E1.set (i := 2) (.ptr a)
    have len : ∀ {G : Gam} {i : Nat} {ws : List (Num × Num)}, G[i]? = some (some (waysD ws)) → EvD (sysOf K) (tCB (fun xs H Q => ∃ p ys, xs = [V.ref p] ∧ (SqL K H p ys ∨ SqT K H p ys) ∧ Q (.int ys.length) H) (tCons (tVar i) tNil)) G (.int (ws.length : Int)) := fun {G i ws} h => (ed_cb (ea_cons (ed_var h) ea_nil) (rc_lenL (ds := ws.map way))).to (by rw [List.length_map])
    have sx : ∀ {G : Gam} {p : Pin}, G[4]? = some (some (spotD p)) → EvD (sysOf K) (tOp (rIxT K) (tVar 4) (tC (.int 0))) G (num p.x) := fun h => ed_op (ed_var h) ed_int (rv_ixT (ds := [num _, num _]) rfl)
    have sy : ∀ {G : Gam} {p : Pin}, G[4]? = some (some (spotD p)) → EvD (sysOf K) (tOp (rIxT K) (tVar 4) (tC (.int 1))) G (num p.y) := fun h => ed_op (ed_var h) ed_int (rv_ixT (ds := [num _, num _]) rfl)
    have hpl := ok.pl
    refine raw_seq ((rf_for_list (S := sysOf K) (P := fun G F => ∃ x3 x4 x5 x6 x7, G = [some (pinsT ps), some (barsT bs), some (.ptr a), x3, x4, x5, x6, x7] ∧ F = ⟨ps, []⟩) (ds := ps.map pinT) (ed_var (i := 0) rfl) (fun k G F => ∃ x3 x4 x5 x6 x7, G = [some (pinsT ps), some (barsT bs), some (.ptr a), x3, x4, x5, x6, x7] ∧ F = ⟨ps.take k, []⟩) ⟨_, _, _, _, _, rfl, rfl⟩ ?_ ?_) _ H1 H' _ e2 E2 fp ?_)
    · rintro k d G F hd ⟨x3, x4, x5, x6, x7, rfl, rfl⟩
      obtain ⟨p, hp, rfl⟩ := map_get hd
      have hpm := get_mem hp
      have hkl := (List.getElem?_eq_some_iff.mp hp).1
      have hn : (Frm.mk (ps.take k) []).pinAt p.name = none := find_none_of Pin.name ok.pn hp
      have hno : ∀ r ∈ (Frm.mk (ps.take k) []).pins, ¬ (r.x, r.y) = (p.x, p.y) := fun r hr z => by
        have h := ok.sn
        rw [split_at hp, List.map_append, List.map_cons] at h
        obtain ⟨_, _, h3⟩ := List.nodup_append.mp h
        exact h3 (r.x, r.y) (List.mem_map.mpr ⟨r, hr, rfl⟩) (p.x, p.y) List.mem_cons_self z
      have hl : (Frm.mk (ps.take k) []).pins.length < 24 := by
        show (ps.take k).length < 24
        rw [List.length_take]
        omega
      have ea : (Frm.mk (ps.take k) []).addPin ⟨p.name, p.x, p.y, p.ways⟩ = ⟨ps.take (k + 1), []⟩ := by
        unfold Frm.addPin
        rw [take_more hp]
      refine ⟨_, tg_tup (ds := [.str p.name, spotD p, waysD p.ways]) (tgs_cons tg_name (tgs_cons tg_name (tgs_cons tg_name tgs_nil))), ?_⟩
      rcases ok.wk p hpm with ew | ew | ⟨wy, ew, hw⟩
      · rw [ew] at ea
        refine rf_seq (rf_if (b := true) ((et_test (ed_op (len (ws := p.ways) rfl) ed_int rv_eqI)).to (by rw [ew]; rfl)) (fun _ => rf_put3 (i := 2) rfl (ed_var (i := 3) rfl) (sx rfl) (sy rfl) hn hno hl ?_) (fun h => by cases h))
        refine rf_seq (rf_if (b := false) ((et_test (ed_op (len (ws := p.ways) rfl) ed_int rv_eqI)).to (by rw [ew]; rfl)) (fun h => by cases h) fun _ => rf_next ?_)
        exact rf_if (b := false) ((et_test (ed_op (len (ws := p.ways) rfl) ed_int rv_eqI)).to (by rw [ew]; rfl)) (fun h => by cases h) fun _ => rf_next ⟨_, _, _, _, _, rfl, ea⟩
      · rw [ew] at ea
        refine rf_seq (rf_if (b := false) ((et_test (ed_op (len (ws := p.ways) rfl) ed_int rv_eqI)).to (by rw [ew]; rfl)) (fun h => by cases h) fun _ => rf_next ?_)
        refine rf_seq (rf_if (b := false) ((et_test (ed_op (len (ws := p.ways) rfl) ed_int rv_eqI)).to (by rw [ew]; rfl)) (fun h => by cases h) fun _ => rf_next ?_)
        exact rf_if (b := true) ((et_test (ed_op (len (ws := p.ways) rfl) ed_int rv_eqI)).to (by rw [ew]; rfl)) (fun _ => rf_put4 (i := 2) rfl (ed_var (i := 3) rfl) (sx rfl) (sy rfl) he_fixed hn hno hl ⟨_, _, _, _, _, rfl, ea⟩) (fun h => by cases h)
      · have wd : waysD p.ways = .lst [way wy] := by rw [ew]; rfl
        have w1 : ∀ {G : Gam}, G[5]? = some (some (waysD p.ways)) → EvD (sysOf K) (tOp (rIxL K) (tVar 5) (tC (.int 0))) G (way wy) := fun h => ed_op (ed_var (h.trans (by rw [wd]))) ed_int (rv_ixL rfl)
        rw [ew] at ea
        refine rf_seq (rf_if (b := false) ((et_test (ed_op (len (ws := p.ways) rfl) ed_int rv_eqI)).to (by rw [ew]; rfl)) (fun h => by cases h) fun _ => rf_next ?_)
        refine rf_seq (rf_if (b := true) ((et_test (ed_op (len (ws := p.ways) rfl) ed_int rv_eqI)).to (by rw [ew]; rfl)) (fun _ => rf_put4 (i := 2) rfl (ed_var (i := 3) rfl) (sx rfl) (sy rfl) (he_roller (x := wy.1) (y := wy.2) (ed_op (w1 rfl) ed_int (rv_ixT (ds := [num _, num _]) rfl)) (ed_op (w1 rfl) ed_int (rv_ixT (ds := [num _, num _]) rfl)) hw) hn hno hl ?_) (fun h => by cases h))
        exact rf_if (b := false) ((et_test (ed_op (len (ws := p.ways) rfl) ed_int rv_eqI)).to (by rw [ew]; rfl)) (fun h => by cases h) fun _ => rf_next ⟨_, _, _, _, _, rfl, ea⟩
    · rintro G F ⟨x3, x4, x5, x6, x7, rfl, rfl⟩
      rw [List.length_map, List.take_length]
      exact ⟨_, _, _, _, _, rfl, rfl⟩
    · rintro G F σ3 H3 H3' ⟨x3, x4, x5, x6, x7, rfl, rfl⟩ s1 s2 E3 fp3
      refine raw_seq ((rf_for_list (S := sysOf K) (P := fun G F => ∃ x3 x4 x5 x6 x7, G = [some (pinsT ps), some (barsT bs), some (.ptr a), x3, x4, x5, x6, x7] ∧ F = frameOf ps bs) (ds := bs.map barT) (ed_var (i := 1) rfl) (fun k G F => ∃ x3 x4 x5 x6 x7, G = [some (pinsT ps), some (barsT bs), some (.ptr a), x3, x4, x5, x6, x7] ∧ F = ⟨ps, (bs.take k).map (barF ps)⟩) ⟨_, _, _, _, _, rfl, rfl⟩ ?_ ?_) _ H3 H3' _ s2 E3 fp3 ?_)
      · rintro k d G F hd ⟨x3, x4, x5, x6, x7, rfl, rfl⟩
        obtain ⟨b, hb, rfl⟩ := map_get hd
        obtain ⟨b1, b2, _⟩ := ok.bi b (get_mem hb)
        have pn : ∀ {G : Gam} {i j : Nat}, G[0]? = some (some (pinsT ps)) → G[i]? = some (some (.int (j : Int))) → j < ps.length → EvD (sysOf K) (tOp (rIxT K) (tOp (rIxL K) (tVar 0) (tVar i)) (tC (.int 0))) G (.str (nameAt ps j)) := fun {G i j} h0 hi hj =>
          ed_op (ed_op (ed_var h0) (ed_var hi) (rv_ixL (z := pinT (ps.getD j nilPin)) (at_ofD rfl (by rw [List.getElem?_map, List.getD_eq_getElem?_getD, List.getElem?_eq_getElem hj]; rfl)))) ed_int (rv_ixT (ds := [.str _, spotD _, waysD _]) rfl)
        refine ⟨_, tg_tup (ds := [.str b.1, .int (b.2.1 : Int), .int (b.2.2 : Int)]) (tgs_cons tg_name (tgs_cons tg_name (tgs_cons tg_name tgs_nil))), rf_bar (i := 2) rfl (ed_var (i := 3) rfl) (pn rfl rfl b1) (pn rfl rfl b2) (ask_bar_ok ok hb) ⟨_, _, _, _, _, rfl, ?_⟩⟩
        unfold Frm.addBar
        rw [take_more hb, List.map_append]
        rfl
      · rintro G F ⟨x3, x4, x5, x6, x7, rfl, rfl⟩
        rw [List.length_map, List.take_length]
        exact ⟨_, _, _, _, _, rfl, rfl⟩
      · rintro G F σ4 H4 H4' ⟨x3, x4, x5, x6, x7, rfl, rfl⟩ t1 t2 E4 fp4
        obtain ⟨v, hv1, hv2⟩ := E4.at_ 2 (.ptr a) rfl
        cases hv2
        exact ⟨_, hv1, q H4 H4' a (s1.trans t1) t2 fp4⟩
end
end Ty
set_option Elab.async false
set_option linter.all false
set_option maxRecDepth 100000
set_option maxHeartbeats 4000000
/-! The law's cells, names, spots, ways. -/
namespace Ty
open PySem PySem.Spec PyProof.Rows L2
def partAt (k : Nat) : Int := ((k : Int) + 5) * ((k : Int) + 5) * 48271 % 2147483647
def cellAt (ns : List Int) (k : Nat) : Int := if k < ns.length then ns.getD k 0 else partAt k * partAt k % 2147483629
def nmS (s a k : Nat) : Str :=
  if s = 0 then repS "p" (k + 1) else if s = 1 then repS "p" a ++ ⟨#[("bcdefghijklm" : Str).cps.toList.getD k 0]⟩ ++ repS "p" (5 - a) else cutS "12345" none (some (a : Int)) ++ ((toString (k : Int) : String) : Str)
def nameL (c : Int) (k : Nat) : Str := nmS (fieldL c 3001 3).toNat (fieldL c 4001 6).toNat k
theorem field_lt (c p m : Int) (hm : 0 < m) : 0 ≤ fieldL c p m ∧ fieldL c p m < m := ⟨Int.emod_nonneg _ (by omega), Int.emod_lt_of_pos _ hm⟩
def spotL (c kind : Int) : Num × Num :=
  if kind = 0 then ((fieldL c 1009 4, 1), (fieldL c 2003 4, 1))
  else if kind = 1 then (lowOf (fieldL c 1009 13 - 6) (1 + fieldL c 3001 3), lowOf (fieldL c 2003 13 - 6) (1 + fieldL c 4001 2))
  else (lowOf (fieldL c 1000003 1000003 - 500001) (1 + fieldL c 3001 997), lowOf (fieldL c 1000033 1000003 - 500001) (1 + fieldL c 4001 997))
def waysL (c : Int) : List (Num × Num) :=
  if fieldL c 5003 6 < 2 then [] else if fieldL c 5003 6 < 4 then fixedW else
    let x := lowOf (fieldL c 6007 7 - 3) (1 + fieldL c 7001 3)
    let y := lowOf (fieldL c 8009 7 - 3) (1 + fieldL c 9001 2)
    [(x, if x.1 = 0 ∧ y.1 = 0 then (1, 1) else y)]
theorem nm_neB : ((List.range 3).all fun s => (List.range 6).all fun a => (List.range 8).all fun k => (List.range 8).all fun j => decide (k = j) || !decide (nmS s a k = nmS s a j)) = true := by decide +kernel
theorem nm_ne {s a k j : Nat} (hs : s < 3) (ha : a < 6) (hk : k < 8) (hj : j < 8) (ne : k ≠ j) : nmS s a k ≠ nmS s a j := by
  have h := nm_neB
  simp only [List.all_eq_true, List.mem_range] at h
  have := h s hs a ha k hk j hj
  simpa [ne] using this
def moreN (i : Nat) : Str := ("more" : Str) ++ ((toString (i : Int) : String) : Str)
theorem nm_notB : ((List.range 3).all fun s => (List.range 6).all fun a => (List.range 8).all fun k => !decide (nmS s a k = "new") && (!decide (nmS s a k = "other") && (!decide (nmS s a k = "z") && (!decide (nmS s a k = "zz") && !decide ((nmS s a k).cps.toList.head? = some 109))))) = true := by decide +kernel
theorem nm_not {s a k : Nat} (hs : s < 3) (ha : a < 6) (hk : k < 8) : nmS s a k ≠ "new" ∧ nmS s a k ≠ "other" ∧ nmS s a k ≠ "z" ∧ nmS s a k ≠ "zz" ∧ (nmS s a k).cps.toList.head? ≠ some 109 := by
  have h := nm_notB
  simp only [List.all_eq_true, List.mem_range] at h
  have := h s hs a ha k hk
  simpa only [Bool.and_eq_true, Bool.not_eq_true', decide_eq_false_iff_not] using this
theorem more_head : ∀ i, i < 60 → (moreN i).cps.toList.head? = some 109 ∧ moreN i ≠ "new" ∧ moreN i ≠ "other" := by decide +kernel
theorem more_ne : ∀ i, i < 60 → ∀ j, j < 60 → i ≠ j → moreN i ≠ moreN j := by decide +kernel
theorem name_ne (c : Int) {k j : Nat} (hk : k < 8) (hj : j < 8) (ne : k ≠ j) : nameL c k ≠ nameL c j := by
  obtain ⟨s0, s1⟩ := field_lt c 3001 3 (by decide)
  obtain ⟨a0, a1⟩ := field_lt c 4001 6 (by decide)
  exact nm_ne (by omega) (by omega) hk hj ne
theorem name_not (c : Int) {k : Nat} (hk : k < 8) : nameL c k ≠ "new" ∧ nameL c k ≠ "other" ∧ nameL c k ≠ "z" ∧ nameL c k ≠ "zz" ∧ (nameL c k).cps.toList.head? ≠ some 109 := by
  obtain ⟨s0, s1⟩ := field_lt c 3001 3 (by decide)
  obtain ⟨a0, a1⟩ := field_lt c 4001 6 (by decide)
  exact nm_not (by omega) (by omega) hk
section
variable {S : Sys} {x y : Str} {n : Int} {te : TE} {G : Gam}
theorem rv_mulS (h0 : 0 ≤ n) (h1 : n ≤ 1000) (h2 : x.length ≤ 1000) : RvD S (fun x y H Q => ∃ (z : Str) (n : Int), x = .str z ∧ y = .int n ∧ 0 ≤ n ∧ n ≤ 1000 ∧ z.length ≤ 1000 ∧ Q (.str (repS z n.toNat)) H) (.str x) (.int n) (.str (repS x n.toNat)) := rv_now fun H1 H u v e a b Q q => by
  cases a
  cases b
  exact ⟨_, _, rfl, rfl, h0, h1, h2, q _ (.str _)⟩
theorem rv_addS (h : x.length + y.length ≤ 100000) : RvD S (fun x y H Q => ∃ i j, x = .str i ∧ y = .str j ∧ i.length + j.length ≤ sizeLine ∧ Q (.str (i ++ j)) H) (.str x) (.str y) (.str (x ++ y)) := rv_now fun H1 H u v e a b Q q => by
  cases a
  cases b
  exact ⟨_, _, rfl, rfl, Nat.le_trans h (by rw [sizeLine_eq]; decide), q _ (.str _)⟩
theorem app_len (x y : Str) : (x ++ y).length = x.length + y.length := by
  show (x.cps ++ y.cps).size = x.cps.size + y.cps.size
  simp
theorem cut_len (z : Str) (lo hi : Option Int) : (cutS z lo hi).length ≤ z.length := by
  show (((z.cps.toList.drop (HT.sIx z.length 0 lo)).take (HT.sIx z.length z.length hi - HT.sIx z.length 0 lo)).toArray).size ≤ z.cps.size
  simp
  omega
theorem rv_ixS {c : Nat} (hz : x.length ≤ 1000) (h : atI x.cps.toList n = some c) : RvD S rIxS (.str x) (.int n) (.str ⟨#[c]⟩) := rv_now fun H1 H u v e a b Q q => by
  cases a
  cases b
  exact ⟨x, n, c, rfl, rfl, Nat.le_trans hz (by rw [sizeLine_eq]; decide), h, q _ (.str _)⟩
theorem ed_slS {tl th : TO} {lo hi : Option Int} (h : EvD S te G (.str x)) (hl : EvO S tl G lo) (hh : EvO S th G hi) (hz : x.length ≤ 1000) : EvD S (tSl rSlS te tl th) G (.str (cutS x lo hi)) := fun σ H1 H e E Q q =>
  h σ H1 H e E _ fun H2 H' v s dv => hl σ H2 H' s.s2 (E.mono s.s1) _ fun H3 H'' s2 => hh σ H3 H'' s2.s2 (E.mono (s.s1.trans s2.s1)) _ fun H4 H4' s3 => by
    cases dv
    exact ⟨x, rfl, Nat.le_trans hz (by rw [sizeLine_eq]; decide), q _ _ _ ((s.trans s2).trans s3) (.str _)⟩
end
section
variable {Pr : Program} {w : World} {K : PySem.W.Frag} {mg : Str → Option Value} {base : Heap}
def R_law_cell_at (ds : List Dat) (d : Dat) : Prop := ∃ (ns : List Int) (k : Nat), ds = [.scr ns, .int (k : Int)] ∧ k ≤ 1000 ∧ d = .int (cellAt ns k)
theorem ok_law_cell_at (T : Txt K mg) (B : Bas Pr base) : FnOk Pr w K mg base CX0 40 (He.ga K "_law_cell_at") (fdAt K (He.ga K "_law_cell_at")) ["_law_script", "_law_k"] (spF (sysOf K) R_law_cell_at) := by
  refine pure_ok (S := sysOf K) (k := 39) T.F_law_cell_at sc_law_cell_at (fun ds d h => ?_) (fun cdv A outer s H E hr => ?_)
  · obtain ⟨ns, k, rfl, _⟩ := h
    rfl
  · refine ⟨_, (pss_cons (ps_if (pt_cmpR op_lt (pv 1) (pe_callB call_len_seq (by rfl) T.n_len (by decide +kernel) (pa_cons (pv 0) pa_nil)) (nomark _)) (pss_one (ps_ret (pe_ix ix_list (pv 0) (pv 1) (fun _ _ => rfl)))) pss_nil) (pss_cons (ps_set (i := 2) (sc_law_cell_at).nd rfl (Or.inl rfl) (pe_op op_mod (pe_op op_mulX (pe_op op_mulX (pe_op op_add (pv 1) pe_int) (pe_op op_add (pv 1) pe_int)) pe_int) pe_int)) (pss_one (ps_ret (pe_op op_mod (pe_op op_mulX (pv 2) (pv 2)) pe_int))))), fun ds d h => ?_⟩
    obtain ⟨ns, k, rfl, hk, rfl⟩ := h
    have hp := Int.emod_nonneg (((k : Int) + 5) * ((k : Int) + 5) * 48271) (show (2147483647 : Int) ≠ 0 by decide)
    have hp2 := Int.emod_lt_of_pos (((k : Int) + 5) * ((k : Int) + 5) * 48271) (show (0 : Int) < 2147483647 by decide)
    refine rd_seq (rd_if (et_test (ed_op (ed_var rfl) (ed_cb (ea_cons (ed_var rfl) ea_nil) rc_lenScr) rv_lt)) (fun h => ?_) fun h => rd_next ?_)
    · have hl : k < ns.length := by have := of_decide_eq_true h; omega
      refine rd_ret (ed_op (ed_var rfl) (ed_var rfl) (rv_ixScr (n := ns.getD k 0) (at_ofD rfl ?_))) (.inl ?_)
      · rw [List.getD_eq_getElem?_getD, List.getElem?_eq_getElem hl]
        rfl
      · unfold cellAt
        rw [if_pos hl]
    · have hl : ¬ k < ns.length := by have := of_decide_eq_false h; omega
      have h1 : ((k : Int) + 5).natAbs < 2 ^ 20 := by omega
      refine rd_seq (rd_set (ed_op (ed_op (ed_op (ed_op (ed_var rfl) ed_int rv_add) (ed_op (ed_var rfl) ed_int rv_add) (rv_mul (mulOk h1 h1 (by decide)))) ed_int (rv_mul (mulOk (sz_mul h1 h1) (b := 20) (by decide) (by decide)))) ed_int (rv_mod (by decide))) ?_)
      refine rd_ret (ed_op (ed_op (ed_var rfl) (ed_var rfl) (rv_mul (mulOk (a := 40) (b := 40) (by omega) (by omega) (by decide)))) ed_int (rv_mod (by decide))) (.inl ?_)
      unfold cellAt partAt
      rw [if_neg hl]
def R_law_name (ds : List Dat) (d : Dat) : Prop := ∃ (c : Int) (k : Nat), ds = [.int c, .int (k : Int)] ∧ k < 12 ∧ d = .str (nameL c k)
theorem ok_law_name (T : Txt K mg) (B : Bas Pr base) : FnOk Pr w K mg base CX0 41 (He.ga K "_law_name") (fdAt K (He.ga K "_law_name")) ["_law_cell", "_law_k"] (spF (sysOf K) R_law_name) := by
  refine pure_ok (S := sysOf K) (k := 40) T.F_law_name sc_law_name (fun ds d h => ?_) (fun cdv A outer s H E hr => ?_)
  · obtain ⟨c, k, rfl, _⟩ := h
    rfl
  · refine ⟨_, (pss_cons (ps_set (i := 2) (sc_law_name).nd rfl (Or.inl rfl) (pe_call (ok_law_field T B) (hr.mono (by decide)) rfl T.g_law_field T.F_law_field.kp T.b_law_field .nil pass0 (pa_cons (pv 0) (pa_cons pe_int (pa_cons pe_int pa_nil))))) (pss_cons (ps_set (i := 3) (sc_law_name).nd rfl (Or.inl rfl) (pe_call (ok_law_field T B) (hr.mono (by decide)) rfl T.g_law_field T.F_law_field.kp T.b_law_field .nil pass0 (pa_cons (pv 0) (pa_cons pe_int (pa_cons pe_int pa_nil))))) (pss_cons (ps_if (pt_cmpR op_eq (pv 2) pe_int (nomark _)) (pss_one (ps_ret (pe_op op_mulS pe_str (pe_op op_add (pv 1) pe_int)))) pss_nil) (pss_cons (ps_if (pt_cmpR op_eq (pv 2) pe_int (nomark _)) (pss_one (ps_ret (pe_op op_add_str (pe_op op_add_str (pe_op op_mulS pe_str (pv 3)) (pe_ix ix_str pe_str (pv 1) (fun _ _ => rfl))) (pe_op op_mulS pe_str (pe_op op_sub pe_int (pv 3)))))) pss_nil) (pss_one (ps_ret (pe_op op_add_str (pe_slice sl_str pe_str po_none (po_some (pv 3))) (pe_callTy call_str_int (by rfl) T.n_str (by decide +kernel) (pa_cons (pv 1) pa_nil))))))))), fun ds d h => ?_⟩
    obtain ⟨c, k, rfl, hk, rfl⟩ := h
    obtain ⟨s0, s1⟩ := field_lt c 3001 3 (by decide)
    obtain ⟨a0, a1⟩ := field_lt c 4001 6 (by decide)
    have hx : ("p" : Str).length ≤ 1000 := Nat.le_of_ble_eq_true rfl
    have rl : ∀ n, n ≤ 20 → (repS "p" n).length ≤ 20 := fun n hn => by rw [repS_length, show ("p" : Str).length = 1 from rfl]; omega
    refine rd_seq (rd_set (ed_call (ea_cons (ed_var rfl) (ea_cons ed_int (ea_cons ed_int ea_nil))) ⟨c, 3001, 3, rfl, by decide, by decide, by decide, rfl⟩) ?_)
    refine rd_seq (rd_set (ed_call (ea_cons (ed_var rfl) (ea_cons ed_int (ea_cons ed_int ea_nil))) ⟨c, 4001, 6, rfl, by decide, by decide, by decide, rfl⟩) ?_)
    refine rd_seq (rd_if (et_test (ed_op (ed_var rfl) ed_int rv_eqI)) (fun h => ?_) fun h => rd_next ?_)
    · refine rd_ret (ed_op ed_str (ed_op (ed_var rfl) ed_int rv_add) (rv_mulS (by omega) (by omega) hx)) (.inl ?_)
      unfold nameL nmS
      rw [if_pos (by have := of_decide_eq_true h; omega)]
      rfl
    · have hs0 := of_decide_eq_false h
      refine rd_seq (rd_if (et_test (ed_op (ed_var rfl) ed_int rv_eqI)) (fun h => ?_) fun h => rd_next ?_)
      · have hs1 := of_decide_eq_true h
        have hat : (fieldL c 4001 6) = (((fieldL c 4001 6).toNat : Nat) : Int) := by omega
        refine rd_ret (ed_op (ed_op (ed_op ed_str (ed_var rfl) (rv_mulS (by omega) (by omega) hx)) (ed_op ed_str (ed_var rfl) (rv_ixS (c := ("bcdefghijklm" : Str).cps.toList.getD k 0) (Nat.le_of_ble_eq_true rfl) (at_ofD rfl ?_))) (rv_addS ?_)) (ed_op ed_str (ed_op ed_int (ed_var rfl) rv_sub) (rv_mulS (by omega) (by omega) hx)) (rv_addS ?_)) (.inl ?_)
        · rw [List.getD_eq_getElem?_getD, List.getElem?_eq_getElem (by exact hk)]
          rfl
        · have := rl (fieldL c 4001 6).toNat (by omega)
          have e1 : (⟨#[("bcdefghijklm" : Str).cps.toList.getD k 0]⟩ : Str).length = 1 := rfl
          omega
        · have h1 := rl (fieldL c 4001 6).toNat (by omega)
          have h2 := rl (5 - fieldL c 4001 6).toNat (by omega)
          have e1 : (⟨#[("bcdefghijklm" : Str).cps.toList.getD k 0]⟩ : Str).length = 1 := rfl
          rw [app_len]
          omega
        · unfold nameL nmS
          rw [if_neg (by omega), if_pos (by omega)]
          have : (5 - fieldL c 4001 6).toNat = 5 - (fieldL c 4001 6).toNat := by omega
          rw [this]
      · have hs1 := of_decide_eq_false h
        have hat : (fieldL c 4001 6) = (((fieldL c 4001 6).toNat : Nat) : Int) := by omega
        have hkc : ∀ j : Nat, j < 12 → (((toString (j : Int) : String) : Str)).length ≤ 10 := by decide +kernel
        refine rd_ret (ed_op (ed_slS ed_str eo_none (eo_some (ed_var rfl)) (Nat.le_of_ble_eq_true rfl)) (ed_cb (ea_cons (ed_var rfl) ea_nil) (rc_str (Nat.lt_of_lt_of_le (show (k : Int).natAbs < 2 ^ 4 by omega) (Nat.pow_le_pow_right (by decide) (by decide))))) (rv_addS ?_)) (.inl ?_)
        · have h1 := cut_len "12345" none (some (fieldL c 4001 6))
          have h2 := hkc k hk
          have e1 : ("12345" : Str).length = 5 := rfl
          omega
        · unfold nameL nmS
          rw [if_neg (by omega), if_neg (by omega), ← hat]
end
end Ty
set_option Elab.async false
set_option linter.all false
set_option maxRecDepth 100000
set_option maxHeartbeats 4000000
/-! The law's spots, ways, pins, bars. -/
namespace Ty
open PySem PySem.Spec PyProof.Rows L2
theorem lay_all : ∀ {ds : List PyData}, (∀ d ∈ ds, d.canLay0 = true ∧ d.depth ≤ 60) → PyData.canLayAll0 ds = true ∧ PyData.depthAll ds ≤ 60
  | [], _ => ⟨by simp [PyData.canLayAll0], by simp [PyData.depthAll]⟩
  | d :: ds, h => by
    obtain ⟨h1, h2⟩ := h d List.mem_cons_self
    obtain ⟨i1, i2⟩ := lay_all fun x hx => h x (List.mem_cons_of_mem _ hx)
    refine ⟨by simp [PyData.canLayAll0, h1, i1], ?_⟩
    simp [PyData.depthAll]
    omega
theorem shaped_list {ds : List PyData} (h : ∀ d ∈ ds, d.canLay0 = true ∧ d.depth ≤ 60) : SeqAt.shaped (.list ds) = true := by
  obtain ⟨h1, h2⟩ := lay_all h
  unfold SeqAt.shaped
  simp [PyData.canLay0, PyData.depth, h1]
  omega
theorem lay_way (w : Num × Num) : (wayPy w).canLay0 = true ∧ (wayPy w).depth ≤ 60 := by
  unfold wayPy numPy
  simp [PyData.canLay0, PyData.canLayAll0, PyData.depth, PyData.depthAll]
theorem toPys_map {α : Type} (f : α → Dat) (g : α → PyData) (h : ∀ a, toPy (f a) = some (g a)) : ∀ l : List α, toPys (l.map f) = some (l.map g)
  | [] => by simp [toPys]
  | a :: l => by simp [toPys, h a, toPys_map f g h l]
theorem rv_inW {S : Sys} {s : Num × Num} {ws : List (Num × Num)} : RvD S (rInD S.K) (way s) (.lst (ws.map way)) (.bl (decide (s ∈ ws))) := rv_now fun H1 H u v e a b Q q => by
  have h2 : toPy (.lst (ws.map way)) = some (.list (ws.map wayPy)) := by
    simp [toPy, toPys_map way wayPy toPy_way ws]
  refine ⟨_, _, toDp e _ _ u (toPy_way s) a, toDp e _ _ v h2 b, shaped_way s, shaped_list fun d hd => ?_, ?_⟩
  · obtain ⟨w, _, rfl⟩ := List.mem_map.mp hd
    exact lay_way w
  · have : ((ws.map wayPy).any fun z => PyData.eqv z (wayPy s)) = decide (s ∈ ws) := by
      rw [List.any_map]
      rw [Bool.eq_iff_iff]
      simp only [List.any_eq_true, Function.comp, eqv_way, decide_eq_true_eq]
      constructor
      · rintro ⟨x, hx, rfl⟩
        exact hx
      · intro h
        exact ⟨s, h, rfl⟩
    rw [this]
    exact q _ (.bl _)
/-- a test that may read the owned thing -/
def EvTL (S : Sys) (i : Nat) (c : TT) (G : Gam) (w : Own) (b : Bool) : Prop := ∀ σ H1 H D, Same H1 H → EnvD S H1 σ G → AtO S i σ H1 H D w → ∀ Q : Bool → Hp → Prop, (∀ H', Same H H' → Q b H') → c σ H Q
section
variable {S : Sys} {i : Nat} {c : TT} {G : Gam} {w : Own} {b : Bool} {t : TS} {P : OutM → Prop}
theorem AtO.env {σ : L2.St} {H1 H : Hp} {D : Addr} (E : EnvD S H1 σ G) (a : AtO S i σ H1 H D w) (e : Same H1 H) : ∃ H2, Same H1 H2 ∧ Same H2 H ∧ EnvD S H2 σ (G.set i (some w.dat)) := by
  obtain ⟨sl, ap, o, ho, hw⟩ := a
  refine ⟨upd H1 D o, same_new ap, fun c u hc => ?_, ⟨by rw [List.length_set]; exact E.len, fun j d' q => ?_⟩⟩
  · by_cases z : c = D
    · subst z
      rw [upd_same] at hc
      rw [← hc]
      exact ho
    · rw [upd_ne z] at hc
      exact e _ _ hc
  · by_cases z : j = i
    · subst z
      have hl : j < G.length := by
        have := (List.getElem?_eq_some_iff.mp q).1
        rwa [List.length_set] at this
      rw [List.getElem?_set_self hl] at q
      cases q
      exact ⟨_, sl, hw.dt ap⟩
    · rw [List.getElem?_set_ne (Ne.symm z)] at q
      obtain ⟨v, h1, h2⟩ := E.at_ j d' q
      exact ⟨v, h1, h2.mono (same_new ap)⟩
theorem EvT.own (h : EvT S c (G.set i (some w.dat)) b) : EvTL S i c G w b := fun σ H1 H D e E a Q q => by
  obtain ⟨H2, s1, s2, E2⟩ := AtO.env E a e
  exact h σ H2 H s2 E2 Q fun H3 H' s => q H' s.s3
theorem AtO.keep {σ : L2.St} {H1 H H' : Hp} {D : Addr} (a : AtO S i σ H1 H D w) (s : Same H H') : AtO S i σ H1 H' D w := by
  obtain ⟨sl, ap, o, ho, hw⟩ := a
  exact ⟨sl, ap, o, s _ _ ho, hw⟩
theorem stepM_keep {H1 H H' : Hp} {D : Addr} (e : Same H1 H) (n : H1 D = none) (s : Same H H') : StepM D H1 H H1 H' := ⟨Same.refl _, e.trans s, fun _ _ _ h => s _ _ h, fun _ _ h => .inl h, n⟩
theorem rm_whileL (I : Nat → Gam → Own → Prop) (m0 : Nat) (h0 : I m0 G w)
    (hs : ∀ m G w, I m G w → ∃ b, EvTL S i c G w b ∧ (b = true → RunM S i t G w (TurnsM (fun G' w' => ∃ m', m' < m ∧ I m' G' w') P)) ∧ (b = false → P (.nx G w))) : RunM S i (tWhile c t) G w P := fun σ H1 H Ds D e E a f => by
  refine ⟨fun m σ' H' => ∃ H2 G' w', StepM D H1 H H2 H' ∧ EnvD S H2 σ' G' ∧ AtO S i σ' H2 H' D w' ∧ I m G' w', ⟨m0, H1, G, w, StepM.refl e a.ap, E, a, h0⟩, ?_⟩
  rintro m σ' H' ⟨H2, G', w', s, E', a', ii⟩
  obtain ⟨b, ht, hT, hF⟩ := hs m G' w' ii
  refine ht σ' H2 H' D s.s2 E' a' _ fun H'' s2 => ?_
  have m3 := stepM_keep s.s2 a'.ap s2
  have a3 := a'.keep s2
  cases b with
  | true => exact iteT ⟨_, fun _ _ n => n, hT rfl σ' H2 H'' _ D m3.s2 E' a3 (FinM.turns (s.trans m3) f fun G3 w3 ⟨m', l, i'⟩ σ3 H4 H4' s3 E3 a3 => ⟨m', l, H4, G3, w3, (s.trans m3).trans s3, E3, a3, i'⟩)⟩
  | false => exact iteF (f.nx G' w' (hF rfl) σ' H2 H'' (s.trans m3) E' a3)
theorem mz_ret {R : Hp → Hp → V → Hp → Prop} (hi : i < G.length) (r : ∀ Hs H0 H2 H' v, Step Hs H0 H2 H' → Dt S H2 v w.dat → R Hs H0 v H') : RunMZ S i (tRet (tVar i)) G w R := fun σ Hs H0 H1 H Ds D st hD E a q => by
  obtain ⟨sl, ap, o, ho, hw⟩ := a
  exact ⟨_, sl, q _ _ (r Hs H0 (upd H1 D o) H _ (step_own st (StepM.refl st.s2 ap) hD ho) (hw.dt ap))⟩
end
/-- a filter that is stricter -/
theorem filt_lt {α : Type} {p q : α → Bool} (h : ∀ a, q a = true → p a = true) : ∀ {l : List α} {a : α}, a ∈ l → p a = true → q a = false → (l.filter q).length < (l.filter p).length
  | x :: l, a, hm, h1, h2 => by
    have le : ∀ l : List α, (l.filter q).length ≤ (l.filter p).length := fun l => by
      induction l with
      | nil => simp
      | cons y l ih =>
        rw [List.filter_cons, List.filter_cons]
        by_cases hq : q y = true
        · rw [if_pos hq, if_pos (h y hq)]
          simpa using ih
        · rw [if_neg hq]
          split
          · rw [List.length_cons]
            omega
          · exact ih
    rw [List.filter_cons, List.filter_cons]
    rcases List.mem_cons.mp hm with rfl | hm
    · rw [if_neg (by rw [h2]; decide), if_pos h1, List.length_cons]
      have := le l
      omega
    · have ih := filt_lt h hm h1 h2
      by_cases hq : q x = true
      · rw [if_pos hq, if_pos (h x hq)]
        simpa using ih
      · rw [if_neg hq]
        split
        · rw [List.length_cons]
          omega
        · exact ih
theorem low_bounds {t b : Int} {n : Nat} {m : Int} (hb : 0 < b) (ht : t.natAbs ≤ n) (hm : b ≤ m) : 0 < (lowOf t b).2 ∧ (lowOf t b).2 ≤ m ∧ (lowOf t b).1.natAbs ≤ n := by
  obtain ⟨d1, d2⟩ := gcd_dvd t b
  have g := gcd_ne (a := t) (b := b) (by omega)
  have g0 : (0 : Int) < (Int.gcd t b : Int) := by omega
  have h1 := div_gcd_ne (a := t) (b := b) (by omega)
  have h2 : 0 ≤ b / (Int.gcd t b : Int) := Int.ediv_nonneg (by omega) (by omega)
  have h3 : (b / (Int.gcd t b : Int)).natAbs ≤ b.natAbs := Int.natAbs_ediv_le_natAbs _ _
  have h4 : (t / (Int.gcd t b : Int)).natAbs ≤ t.natAbs := Int.natAbs_ediv_le_natAbs _ _
  refine ⟨?_, ?_, ?_⟩
  · show 0 < b / (Int.gcd t b : Int)
    omega
  · show b / (Int.gcd t b : Int) ≤ m
    omega
  · show (t / (Int.gcd t b : Int)).natAbs ≤ n
    omega
def NumB (n : Nat) (q : Num) : Prop := 0 < q.2 ∧ q.2 ≤ 1000 ∧ q.1.natAbs ≤ n
theorem NumB.good {n : Nat} {q : Num} (h : NumB n q) (hn : n ≤ 1000000) : Good 64 q := by
  obtain ⟨a, b, c⟩ := h
  exact ⟨⟨by omega, by omega⟩, a⟩
theorem spot_b (c kind : Int) : NumB 600000 (spotL c kind).1 ∧ NumB 600000 (spotL c kind).2 := by
  unfold spotL
  split
  · obtain ⟨a, b⟩ := field_lt c 1009 4 (by decide)
    obtain ⟨a', b'⟩ := field_lt c 2003 4 (by decide)
    exact ⟨⟨(show (0 : Int) < 1 by decide), (show (1 : Int) ≤ 1000 by decide), by dsimp only; omega⟩, ⟨(show (0 : Int) < 1 by decide), (show (1 : Int) ≤ 1000 by decide), by dsimp only; omega⟩⟩
  · split
    · obtain ⟨a, b⟩ := field_lt c 1009 13 (by decide)
      obtain ⟨a', b'⟩ := field_lt c 2003 13 (by decide)
      obtain ⟨e, f⟩ := field_lt c 3001 3 (by decide)
      obtain ⟨e', f'⟩ := field_lt c 4001 2 (by decide)
      exact ⟨low_bounds (by omega) (by omega) (by omega), low_bounds (by omega) (by omega) (by omega)⟩
    · obtain ⟨a, b⟩ := field_lt c 1000003 1000003 (by decide)
      obtain ⟨a', b'⟩ := field_lt c 1000033 1000003 (by decide)
      obtain ⟨e, f⟩ := field_lt c 3001 997 (by decide)
      obtain ⟨e', f'⟩ := field_lt c 4001 997 (by decide)
      exact ⟨low_bounds (by omega) (by omega) (by omega), low_bounds (by omega) (by omega) (by omega)⟩
theorem ways_ok (c : Int) : WaysOk (waysL c) ∧ ∀ w ∈ waysL c, Good 64 w.1 ∧ Good 64 w.2 := by
  have g10 : Good 64 ((1 : Int), (1 : Int)) := ⟨⟨by decide, by decide⟩, by decide⟩
  have g01 : Good 64 ((0 : Int), (1 : Int)) := ⟨⟨by decide, by decide⟩, by decide⟩
  unfold waysL
  split
  · exact ⟨.inl rfl, fun w h => by cases h⟩
  · split
    · refine ⟨.inr (.inl rfl), fun w h => ?_⟩
      unfold fixedW at h
      rcases List.mem_cons.mp h with rfl | h
      · exact ⟨g10, g01⟩
      · rw [List.mem_singleton.mp h]
        exact ⟨g01, g10⟩
    · obtain ⟨a, b⟩ := field_lt c 6007 7 (by decide)
      obtain ⟨a', b'⟩ := field_lt c 8009 7 (by decide)
      obtain ⟨e, f⟩ := field_lt c 7001 3 (by decide)
      obtain ⟨e', f'⟩ := field_lt c 9001 2 (by decide)
      have bx : NumB 10 (lowOf (fieldL c 6007 7 - 3) (1 + fieldL c 7001 3)) := low_bounds (by omega) (by omega) (by omega)
      have by_ : NumB 10 (lowOf (fieldL c 8009 7 - 3) (1 + fieldL c 9001 2)) := low_bounds (by omega) (by omega) (by omega)
      refine ⟨.inr (.inr ⟨_, rfl, ?_⟩), fun w h => ?_⟩
      · dsimp only
        split
        · rintro ⟨_, h⟩
          exact absurd h (by decide)
        · rename_i h
          exact h
      · rw [List.mem_singleton.mp h]
        refine ⟨bx.good (by decide), ?_⟩
        dsimp only
        split
        · exact g10
        · exact by_.good (by decide)
section
variable {Pr : Program} {w : World} {K : PySem.W.Frag} {mg : Str → Option Value} {base : Heap}
def R_law_spot (ds : List Dat) (d : Dat) : Prop := ∃ (c kind : Int), ds = [.int c, .int kind] ∧ d = way (spotL c kind)
theorem ok_law_spot (T : Txt K mg) (B : Bas Pr base) : FnOk Pr w K mg base CX0 41 (He.ga K "_law_spot") (fdAt K (He.ga K "_law_spot")) ["_law_cell", "_law_kind"] (spF (sysOf K) R_law_spot) := by
  refine pure_ok (S := sysOf K) (k := 40) T.F_law_spot sc_law_spot (fun ds d h => ?_) (fun cdv A outer s H E hr => ?_)
  · obtain ⟨c, kind, rfl, _⟩ := h
    rfl
  · refine ⟨_, (pss_cons (ps_if (pt_cmpR op_eq (pv 1) pe_int (nomark _)) (pss_one (ps_ret (pe_tup (pa_cons (pe_tup (pa_cons (pe_call (ok_law_field T B) (hr.mono (by decide)) rfl T.g_law_field T.F_law_field.kp T.b_law_field .nil pass0 (pa_cons (pv 0) (pa_cons pe_int (pa_cons pe_int pa_nil)))) (pa_cons pe_int pa_nil))) (pa_cons (pe_tup (pa_cons (pe_call (ok_law_field T B) (hr.mono (by decide)) rfl T.g_law_field T.F_law_field.kp T.b_law_field .nil pass0 (pa_cons (pv 0) (pa_cons pe_int (pa_cons pe_int pa_nil)))) (pa_cons pe_int pa_nil))) pa_nil))))) pss_nil) (pss_cons (ps_if (pt_cmpR op_eq (pv 1) pe_int (nomark _)) (pss_cons (ps_set (i := 2) (sc_law_spot).nd rfl (Or.inl rfl) (pe_call (ok_law_lowest T B) (hr.mono (by decide)) rfl T.g_law_lowest T.F_law_lowest.kp T.b_law_lowest .nil pass0 (pa_cons (pe_op op_sub (pe_call (ok_law_field T B) (hr.mono (by decide)) rfl T.g_law_field T.F_law_field.kp T.b_law_field .nil pass0 (pa_cons (pv 0) (pa_cons pe_int (pa_cons pe_int pa_nil)))) pe_int) (pa_cons (pe_op op_add pe_int (pe_call (ok_law_field T B) (hr.mono (by decide)) rfl T.g_law_field T.F_law_field.kp T.b_law_field .nil pass0 (pa_cons (pv 0) (pa_cons pe_int (pa_cons pe_int pa_nil))))) pa_nil)))) (pss_one (ps_ret (pe_tup (pa_cons (pv 2) (pa_cons (pe_call (ok_law_lowest T B) (hr.mono (by decide)) rfl T.g_law_lowest T.F_law_lowest.kp T.b_law_lowest .nil pass0 (pa_cons (pe_op op_sub (pe_call (ok_law_field T B) (hr.mono (by decide)) rfl T.g_law_field T.F_law_field.kp T.b_law_field .nil pass0 (pa_cons (pv 0) (pa_cons pe_int (pa_cons pe_int pa_nil)))) pe_int) (pa_cons (pe_op op_add pe_int (pe_call (ok_law_field T B) (hr.mono (by decide)) rfl T.g_law_field T.F_law_field.kp T.b_law_field .nil pass0 (pa_cons (pv 0) (pa_cons pe_int (pa_cons pe_int pa_nil))))) pa_nil))) pa_nil)))))) pss_nil) (pss_cons (ps_set (i := 2) (sc_law_spot).nd rfl (Or.inl rfl) (pe_call (ok_law_lowest T B) (hr.mono (by decide)) rfl T.g_law_lowest T.F_law_lowest.kp T.b_law_lowest .nil pass0 (pa_cons (pe_op op_sub (pe_call (ok_law_field T B) (hr.mono (by decide)) rfl T.g_law_field T.F_law_field.kp T.b_law_field .nil pass0 (pa_cons (pv 0) (pa_cons pe_int (pa_cons pe_int pa_nil)))) pe_int) (pa_cons (pe_op op_add pe_int (pe_call (ok_law_field T B) (hr.mono (by decide)) rfl T.g_law_field T.F_law_field.kp T.b_law_field .nil pass0 (pa_cons (pv 0) (pa_cons pe_int (pa_cons pe_int pa_nil))))) pa_nil)))) (pss_one (ps_ret (pe_tup (pa_cons (pv 2) (pa_cons (pe_call (ok_law_lowest T B) (hr.mono (by decide)) rfl T.g_law_lowest T.F_law_lowest.kp T.b_law_lowest .nil pass0 (pa_cons (pe_op op_sub (pe_call (ok_law_field T B) (hr.mono (by decide)) rfl T.g_law_field T.F_law_field.kp T.b_law_field .nil pass0 (pa_cons (pv 0) (pa_cons pe_int (pa_cons pe_int pa_nil)))) pe_int) (pa_cons (pe_op op_add pe_int (pe_call (ok_law_field T B) (hr.mono (by decide)) rfl T.g_law_field T.F_law_field.kp T.b_law_field .nil pass0 (pa_cons (pv 0) (pa_cons pe_int (pa_cons pe_int pa_nil))))) pa_nil))) pa_nil)))))))), fun ds d h => ?_⟩
    obtain ⟨c, kind, rfl, rfl⟩ := h
    have fld : ∀ {G : Gam} (p m : Int), 0 < p → p < 1073741824 → 0 < m → G[0]? = some (some (.int c)) → EvD (sysOf K) (tCall (spF (sysOf K) R_law_field) [] E0 (tCons (tVar 0) (tCons (tC (.int p)) (tCons (tC (.int m)) tNil)))) G (.int (fieldL c p m)) := fun p m hp hp2 hm h => ed_call (ea_cons (ed_var h) (ea_cons ed_int (ea_cons ed_int ea_nil))) ⟨c, p, m, rfl, hp, hp2, hm, rfl⟩
    refine rd_seq (rd_if (et_test (ed_op (ed_var rfl) ed_int rv_eqI)) (fun h => ?_) fun h => rd_next ?_)
    · refine rd_ret (ed_tup (ea_cons (ed_tup (ea_cons (fld 1009 4 (by decide) (by decide) (by decide) rfl) (ea_cons ed_int ea_nil))) (ea_cons (ed_tup (ea_cons (fld 2003 4 (by decide) (by decide) (by decide) rfl) (ea_cons ed_int ea_nil))) ea_nil))) (.inl ?_)
      unfold spotL
      rw [if_pos (of_decide_eq_true h)]
      rfl
    · have h0 := of_decide_eq_false h
      have b1 := field_lt c 3001 3 (by decide)
      have b2 := field_lt c 4001 2 (by decide)
      have b3 := field_lt c 3001 997 (by decide)
      have b4 := field_lt c 4001 997 (by decide)
      have low : ∀ {G : Gam} {ta tb : TE} {t b : Int}, EvD (sysOf K) ta G (.int t) → EvD (sysOf K) tb G (.int b) → 0 < b → EvD (sysOf K) (tCall (spF (sysOf K) R_law_lowest) [] E0 (tCons ta (tCons tb tNil))) G (num (lowOf t b)) := fun h1 h2 hb => ed_call (ea_cons h1 (ea_cons h2 ea_nil)) ⟨_, _, rfl, hb, rfl⟩
      refine rd_seq (rd_if (et_test (ed_op (ed_var rfl) ed_int rv_eqI)) (fun h => ?_) fun h => rd_next ?_)
      · refine rd_seq (rd_set (low (ed_op (fld 1009 13 (by decide) (by decide) (by decide) rfl) ed_int rv_sub) (ed_op ed_int (fld 3001 3 (by decide) (by decide) (by decide) rfl) rv_add) (by omega)) ?_)
        refine rd_ret (ed_tup (ea_cons (ed_var rfl) (ea_cons (low (ed_op (fld 2003 13 (by decide) (by decide) (by decide) rfl) ed_int rv_sub) (ed_op ed_int (fld 4001 2 (by decide) (by decide) (by decide) rfl) rv_add) (by omega)) ea_nil))) (.inl ?_)
        unfold spotL
        rw [if_neg h0, if_pos (of_decide_eq_true h)]
        rfl
      · refine rd_seq (rd_set (low (ed_op (fld 1000003 1000003 (by decide) (by decide) (by decide) rfl) ed_int rv_sub) (ed_op ed_int (fld 3001 997 (by decide) (by decide) (by decide) rfl) rv_add) (by omega)) ?_)
        refine rd_ret (ed_tup (ea_cons (ed_var rfl) (ea_cons (low (ed_op (fld 1000033 1000003 (by decide) (by decide) (by decide) rfl) ed_int rv_sub) (ed_op ed_int (fld 4001 997 (by decide) (by decide) (by decide) rfl) rv_add) (by omega)) ea_nil))) (.inl ?_)
        unfold spotL
        rw [if_neg h0, if_neg (of_decide_eq_false h)]
        rfl
def R_law_ways (ds : List Dat) (d : Dat) : Prop := ∃ (c : Int), ds = [.int c] ∧ d = waysD (waysL c)
theorem ok_law_ways (T : Txt K mg) (B : Bas Pr base) : FnOk Pr w K mg base CX0 41 (He.ga K "_law_ways") (fdAt K (He.ga K "_law_ways")) ["_law_cell"] (spF (sysOf K) R_law_ways) := by
  refine pure_ok (S := sysOf K) (k := 40) T.F_law_ways sc_law_ways (fun ds d h => ?_) (fun cdv A outer s H E hr => ?_)
  · obtain ⟨c, rfl, _⟩ := h
    rfl
  · refine ⟨_, (pss_cons (ps_set (i := 1) (sc_law_ways).nd rfl (Or.inl rfl) (pe_call (ok_law_field T B) (hr.mono (by decide)) rfl T.g_law_field T.F_law_field.kp T.b_law_field .nil pass0 (pa_cons (pv 0) (pa_cons pe_int (pa_cons pe_int pa_nil))))) (pss_cons (ps_if (pt_cmpR op_lt (pv 1) pe_int (nomark _)) (pss_one (ps_ret (pe_lst pa_nil))) pss_nil) (pss_cons (ps_if (pt_cmpR op_lt (pv 1) pe_int (nomark _)) (pss_one (ps_ret (pe_lst (pa_cons (pe_tup (pa_cons (pe_tup (pa_cons pe_int (pa_cons pe_int pa_nil))) (pa_cons (pe_tup (pa_cons pe_int (pa_cons pe_int pa_nil))) pa_nil))) (pa_cons (pe_tup (pa_cons (pe_tup (pa_cons pe_int (pa_cons pe_int pa_nil))) (pa_cons (pe_tup (pa_cons pe_int (pa_cons pe_int pa_nil))) pa_nil))) pa_nil))))) pss_nil) (pss_cons (ps_set (i := 2) (sc_law_ways).nd rfl (Or.inl rfl) (pe_call (ok_law_lowest T B) (hr.mono (by decide)) rfl T.g_law_lowest T.F_law_lowest.kp T.b_law_lowest .nil pass0 (pa_cons (pe_op op_sub (pe_call (ok_law_field T B) (hr.mono (by decide)) rfl T.g_law_field T.F_law_field.kp T.b_law_field .nil pass0 (pa_cons (pv 0) (pa_cons pe_int (pa_cons pe_int pa_nil)))) pe_int) (pa_cons (pe_op op_add pe_int (pe_call (ok_law_field T B) (hr.mono (by decide)) rfl T.g_law_field T.F_law_field.kp T.b_law_field .nil pass0 (pa_cons (pv 0) (pa_cons pe_int (pa_cons pe_int pa_nil))))) pa_nil)))) (pss_cons (ps_set (i := 3) (sc_law_ways).nd rfl (Or.inl rfl) (pe_call (ok_law_lowest T B) (hr.mono (by decide)) rfl T.g_law_lowest T.F_law_lowest.kp T.b_law_lowest .nil pass0 (pa_cons (pe_op op_sub (pe_call (ok_law_field T B) (hr.mono (by decide)) rfl T.g_law_field T.F_law_field.kp T.b_law_field .nil pass0 (pa_cons (pv 0) (pa_cons pe_int (pa_cons pe_int pa_nil)))) pe_int) (pa_cons (pe_op op_add pe_int (pe_call (ok_law_field T B) (hr.mono (by decide)) rfl T.g_law_field T.F_law_field.kp T.b_law_field .nil pass0 (pa_cons (pv 0) (pa_cons pe_int (pa_cons pe_int pa_nil))))) pa_nil)))) (pss_cons (ps_if (PW.pt (pw_and (pt_cmpR op_eq (pe_ix ix_tup (pv 2) pe_int (fun _ _ => rfl)) pe_int (nomark _)) (pw_and1 (pt_cmpR op_eq (pe_ix ix_tup (pv 3) pe_int (fun _ _ => rfl)) pe_int (nomark _))))) (pss_one (ps_set (i := 3) (sc_law_ways).nd rfl (Or.inl rfl) (pe_tup (pa_cons pe_int (pa_cons pe_int pa_nil))))) pss_nil) (pss_one (ps_ret (pe_lst (pa_cons (pe_tup (pa_cons (pv 2) (pa_cons (pv 3) pa_nil))) pa_nil)))))))))), fun ds d h => ?_⟩
    obtain ⟨c, rfl, rfl⟩ := h
    have fld : ∀ {G : Gam} (p m : Int), 0 < p → p < 1073741824 → 0 < m → G[0]? = some (some (.int c)) → EvD (sysOf K) (tCall (spF (sysOf K) R_law_field) [] E0 (tCons (tVar 0) (tCons (tC (.int p)) (tCons (tC (.int m)) tNil)))) G (.int (fieldL c p m)) := fun p m hp hp2 hm h => ed_call (ea_cons (ed_var h) (ea_cons ed_int (ea_cons ed_int ea_nil))) ⟨c, p, m, rfl, hp, hp2, hm, rfl⟩
    have low : ∀ {G : Gam} {ta tb : TE} {t b : Int}, EvD (sysOf K) ta G (.int t) → EvD (sysOf K) tb G (.int b) → 0 < b → EvD (sysOf K) (tCall (spF (sysOf K) R_law_lowest) [] E0 (tCons ta (tCons tb tNil))) G (num (lowOf t b)) := fun h1 h2 hb => ed_call (ea_cons h1 (ea_cons h2 ea_nil)) ⟨_, _, rfl, hb, rfl⟩
    have b1 := field_lt c 7001 3 (by decide)
    have b2 := field_lt c 9001 2 (by decide)
    refine rd_seq (rd_set (fld 5003 6 (by decide) (by decide) (by decide) rfl) ?_)
    refine rd_seq (rd_if (et_test (ed_op (ed_var rfl) ed_int rv_lt)) (fun h => ?_) fun h => rd_next ?_)
    · refine rd_ret (ed_lst ea_nil) (.inl ?_)
      unfold waysL
      rw [if_pos (of_decide_eq_true h)]
      rfl
    · have h0 := of_decide_eq_false h
      refine rd_seq (rd_if (et_test (ed_op (ed_var rfl) ed_int rv_lt)) (fun h => ?_) fun h => rd_next ?_)
      · have h2 : ∀ {i j : Int} {G : Gam}, EvD (sysOf K) (tTup (tCons (tC (.int i)) (tCons (tC (.int j)) tNil))) G (.tup [.int i, .int j]) := ed_tup (ea_cons ed_int (ea_cons ed_int ea_nil))
        refine rd_ret (ed_lst (ea_cons (ed_tup (ea_cons h2 (ea_cons h2 ea_nil))) (ea_cons (ed_tup (ea_cons h2 (ea_cons h2 ea_nil))) ea_nil))) (.inl ?_)
        unfold waysL
        rw [if_neg h0, if_pos (of_decide_eq_true h)]
        rfl
      · have h1 := of_decide_eq_false h
        refine rd_seq (rd_set (low (ed_op (fld 6007 7 (by decide) (by decide) (by decide) rfl) ed_int rv_sub) (ed_op ed_int (fld 7001 3 (by decide) (by decide) (by decide) rfl) rv_add) (by omega)) ?_)
        refine rd_seq (rd_set (low (ed_op (fld 8009 7 (by decide) (by decide) (by decide) rfl) ed_int rv_sub) (ed_op ed_int (fld 9001 2 (by decide) (by decide) (by decide) rfl) rv_add) (by omega)) ?_)
        have ew : waysL c = [(lowOf (fieldL c 6007 7 - 3) (1 + fieldL c 7001 3), if (lowOf (fieldL c 6007 7 - 3) (1 + fieldL c 7001 3)).1 = 0 ∧ (lowOf (fieldL c 8009 7 - 3) (1 + fieldL c 9001 2)).1 = 0 then (1, 1) else lowOf (fieldL c 8009 7 - 3) (1 + fieldL c 9001 2))] := by
          unfold waysL
          rw [if_neg h0, if_neg h1]
        rw [ew]
        generalize lowOf (fieldL c 6007 7 - 3) (1 + fieldL c 7001 3) = x
        generalize lowOf (fieldL c 8009 7 - 3) (1 + fieldL c 9001 2) = y
        refine rd_seq (rd_if (b := decide (x.1 = 0) && decide (y.1 = 0)) (et_and (et_test (ed_op (ed_n0 (q := x) (ed_var rfl)) ed_int rv_eqI)) fun _ => et_test (ed_op (ed_n0 (q := y) (ed_var rfl)) ed_int rv_eqI)) (fun h => ?_) fun h => rd_next ?_)
        · have hxy : x.1 = 0 ∧ y.1 = 0 := by simpa using h
          rw [if_pos hxy]
          exact rd_set (ed_tup (ea_cons ed_int (ea_cons ed_int ea_nil))) (rd_ret (ed_lst (ea_cons (ed_tup (ea_cons (ed_var rfl) (ea_cons (ed_var rfl) ea_nil))) ea_nil)) (.inl rfl))
        · have hxy : ¬ (x.1 = 0 ∧ y.1 = 0) := fun z => by
            rw [z.1, z.2] at h
            exact absurd h (by decide)
          rw [if_neg hxy]
          exact rd_ret (ed_lst (ea_cons (ed_tup (ea_cons (ed_var rfl) (ea_cons (ed_var rfl) ea_nil))) ea_nil)) (.inl rfl)
end
end Ty
set_option Elab.async false
set_option linter.all false
set_option maxRecDepth 100000
set_option maxHeartbeats 4000000
/-! _law_pins, _law_bars. -/
namespace Ty
open PySem PySem.Spec PyProof.Rows L2
structure PinsOk (c : Int) (ps : List Pin) : Prop where
  nm : ∀ k p, ps[k]? = some p → p.name = nameL c k
  sn : (ps.map fun p => (p.x, p.y)).Nodup
  bx : ∀ p ∈ ps, NumB 700000 p.x ∧ NumB 700000 p.y
  wk : ∀ p ∈ ps, WaysOk p.ways ∧ ∀ w ∈ p.ways, Good 64 w.1 ∧ Good 64 w.2
theorem PinsOk.snoc {c : Int} {ps : List Pin} {p : Pin} (h : PinsOk c ps) (h1 : p.name = nameL c ps.length) (h2 : ¬ (p.x, p.y) ∈ ps.map fun p => (p.x, p.y)) (h3 : NumB 700000 p.x ∧ NumB 700000 p.y) (h4 : WaysOk p.ways ∧ ∀ w ∈ p.ways, Good 64 w.1 ∧ Good 64 w.2) : PinsOk c (ps ++ [p]) := by
  refine ⟨fun k q hq => ?_, ?_, fun q hq => ?_, fun q hq => ?_⟩
  · by_cases hk : k < ps.length
    · rw [List.getElem?_append_left hk] at hq
      exact h.nm k q hq
    · have hkl := (List.getElem?_eq_some_iff.mp hq).1
      rw [List.length_append, List.length_singleton] at hkl
      have e : k = ps.length := by omega
      subst e
      rw [List.getElem?_append_right (Nat.le_refl _), Nat.sub_self] at hq
      cases hq
      exact h1
  · rw [List.map_append]
    refine List.nodup_append.mpr ⟨h.sn, List.nodup_cons.mpr ⟨by simp, List.nodup_nil⟩, fun a ha b hb e => ?_⟩
    rw [List.map_singleton, List.mem_singleton] at hb
    rw [e, hb] at ha
    exact h2 ha
  · rcases List.mem_append.mp hq with hq | hq
    · exact h.bx q hq
    · rw [List.mem_singleton.mp hq]
      exact h3
  · rcases List.mem_append.mp hq with hq | hq
    · exact h.wk q hq
    · rw [List.mem_singleton.mp hq]
      exact h4
def cnt (ps : List Pin) (s : Num × Num) : Nat := (ps.filter fun p => decide (p.x.2 = s.1.2 ∧ s.1.1 ≤ p.x.1)).length
theorem cnt_lt {ps : List Pin} {s : Num × Num} (hs : 0 < s.1.2) (h : s ∈ ps.map fun p => (p.x, p.y)) : cnt ps (sumL s.1 (1, 1), s.2) < cnt ps s := by
  obtain ⟨p, hp, e⟩ := List.mem_map.mp h
  have e1 : p.x = s.1 := by rw [← e]
  refine filt_lt (a := p) (fun a ha => ?_) hp ?_ ?_
  · have := of_decide_eq_true ha
    unfold sumL at this
    dsimp only at this
    refine decide_eq_true ⟨?_, ?_⟩ <;> omega
  · refine decide_eq_true ⟨by rw [e1], by rw [e1]; omega⟩
  · refine decide_eq_false fun z => ?_
    have := z.2
    rw [e1] at this
    unfold sumL at this
    dsimp only at this
    omega
theorem cnt_le (ps : List Pin) (s : Num × Num) : cnt ps s ≤ ps.length := List.length_filter_le _ _
def manyL : List Int := [0, 1, 2, 2, 3, 3, 3, 4, 4, 5]
section
variable {Pr : Program} {w : World} {K : PySem.W.Frag} {mg : Str → Option Value} {base : Heap}
def Post_law_pins (K : PySem.W.Frag) (_ : List Int) (H1 H : Hp) (v : V) (H' : Hp) : Prop := ∃ H2 ps c, Step H1 H H2 H' ∧ Dt (sysOf K) H2 v (pinsT ps) ∧ PinsOk c ps ∧ ps.length ≤ 5
theorem ok_law_pins (T : Txt K mg) (B : Bas Pr base) : FnOk Pr w K mg base CX0 42 (He.ga K "_law_pins") (fdAt K (He.ga K "_law_pins")) ["_law_script"] (spZ (sysOf K) (fun ns ds => ds = [.scr ns]) (Post_law_pins K)) := by
  refine rz_ok (S := sysOf K) (k := 41) T.F_law_pins sc_law_pins (fun j ds h => ?_) (fun cdv A outer s H E hr => ?_)
  · subst h
    rfl
  · refine ⟨_, (pss_cons (ps_set (i := 1) (sc_law_pins).nd rfl (Or.inl rfl) (pe_call (ok_law_cell_at T B) (hr.mono (by decide)) rfl T.g_law_cell_at T.F_law_cell_at.kp T.b_law_cell_at .nil pass0 (pa_cons (pv 0) (pa_cons pe_int pa_nil)))) (pss_cons (ps_set (i := 2) (sc_law_pins).nd rfl (Or.inl rfl) (pe_ix ix_list (pe_lst (pa_cons pe_int (pa_cons pe_int (pa_cons pe_int (pa_cons pe_int (pa_cons pe_int (pa_cons pe_int (pa_cons pe_int (pa_cons pe_int (pa_cons pe_int (pa_cons pe_int pa_nil))))))))))) (pe_call (ok_law_field T B) (hr.mono (by decide)) rfl T.g_law_field T.F_law_field.kp T.b_law_field .nil pass0 (pa_cons (pv 1) (pa_cons pe_int (pa_cons pe_int pa_nil)))) (fun _ _ => rfl))) (pss_cons (ps_set (i := 3) (sc_law_pins).nd rfl (Or.inl rfl) (pe_call (ok_law_field T B) (hr.mono (by decide)) rfl T.g_law_field T.F_law_field.kp T.b_law_field .nil pass0 (pa_cons (pv 1) (pa_cons pe_int (pa_cons pe_int pa_nil))))) (pss_cons (ps_if (pt_cmpR op_eq (pv 3) pe_int (nomark _)) (pss_one (ps_set (i := 2) (sc_law_pins).nd rfl (Or.inl rfl) (pe_callB (call_min2 rfl) (by rfl) T.n_min (by decide +kernel) (pa_cons (pv 2) (pa_cons pe_int pa_nil))))) pss_nil) (pss_cons (ps_set (i := 4) (sc_law_pins).nd rfl (Or.inl rfl) (pe_lst pa_nil)) (pss_cons (ps_for PassesOwn.never rfl (pi_range1 rfl T.n_range (pa_cons (pv 2) pa_nil)) (pg_name (i := 5) (sc_law_pins).nd rfl (Or.inl rfl)) (pss_cons (ps_set (i := 6) (sc_law_pins).nd rfl (Or.inl rfl) (pe_call (ok_law_spot T B) (hr.mono (by decide)) rfl T.g_law_spot T.F_law_spot.kp T.b_law_spot .nil pass0 (pa_cons (pe_call (ok_law_cell_at T B) (hr.mono (by decide)) rfl T.g_law_cell_at T.F_law_cell_at.kp T.b_law_cell_at .nil pass0 (pa_cons (pv 0) (pa_cons (pe_op op_add pe_int (pv 5)) pa_nil))) (pa_cons (pv 3) pa_nil)))) (pss_cons (ps_while PassesOwn.never (pt_cmpR (op_inD (hu65 hr)) (pv 6) (pe_lc (own := [("_law_pin", 7)]) (g := gName 7) (tt := tYes) rfl (sc_law_pins).nd (pi_list (pv 4)) (blkOk_by (N := ["_law_script", "_law_cell", "_law_many", "_law_kind", "_law_pins_here", "_law_k", "_law_spot_here", "_law_pin"]) (sc := defScope s_law_pins) (by decide +kernel)) (fun _ _ _ _ _ => pg_name (i := 7) (sc_law_pins).nd rfl (Or.inl rfl)) (fun _ _ _ _ _ => pts_nil) (fun _ _ _ _ _ => (pe_ix (ix_tupK K) (pv 7) pe_int (fun _ _ => rfl)))) (by rfl)) (pss_one (ps_set (i := 6) (sc_law_pins).nd rfl (Or.inl rfl) (pe_tup (pa_cons (pe_call (ok_law_sum T B) (hr.mono (by decide)) rfl T.g_law_sum T.F_law_sum.kp T.b_law_sum .nil pass0 (pa_cons (pe_ix ix_tup (pv 6) pe_int (fun _ _ => rfl)) (pa_cons (pe_tup (pa_cons pe_int (pa_cons pe_int pa_nil))) pa_nil))) (pa_cons (pe_ix ix_tup (pv 6) pe_int (fun _ _ => rfl)) pa_nil)))))) (pss_one (ps_expr (pe_bm PySem.F.plainAttrs_list PySem.F.slot_list_append PySem.F.type_list_append mt_append (pv 4) (pa_cons (pe_tup (pa_cons (pe_call (ok_law_name T B) (hr.mono (by decide)) rfl T.g_law_name T.F_law_name.kp T.b_law_name .nil pass0 (pa_cons (pv 1) (pa_cons (pv 5) pa_nil))) (pa_cons (pv 6) (pa_cons (pe_call (ok_law_ways T B) (hr.mono (by decide)) rfl T.g_law_ways T.F_law_ways.kp T.b_law_ways .nil pass0 (pa_cons (pe_call (ok_law_cell_at T B) (hr.mono (by decide)) rfl T.g_law_cell_at T.F_law_cell_at.kp T.b_law_cell_at .nil pass0 (pa_cons (pv 0) (pa_cons (pe_op op_add pe_int (pv 5)) pa_nil))) pa_nil)) pa_nil)))) pa_nil))))))) (pss_one (ps_ret (pv 4))))))))), fun ns ds h => ?_⟩
    subst h
    have sR : Stable (Post_law_pins K ns) := fun H1 H Ha Hb v H' s p => by
      obtain ⟨H2, ps, c, s2, r⟩ := p
      exact ⟨H2, ps, c, s.trans s2, r⟩
    refine rz_seq sR (rd_set (ed_call (ea_cons (ed_var rfl) (ea_cons ed_int ea_nil)) ⟨ns, 0, rfl, by decide, rfl⟩) ?_)
    generalize cellAt ns 0 = c
    have fld : ∀ {G : Gam} (p m : Int), 0 < p → p < 1073741824 → 0 < m → G[1]? = some (some (.int c)) → EvD (sysOf K) (tCall (spF (sysOf K) R_law_field) [] E0 (tCons (tVar 1) (tCons (tC (.int p)) (tCons (tC (.int m)) tNil)))) G (.int (fieldL c p m)) := fun p m hp hp2 hm h => ed_call (ea_cons (ed_var h) (ea_cons ed_int (ea_cons ed_int ea_nil))) ⟨c, p, m, rfl, hp, hp2, hm, rfl⟩
    obtain ⟨f0, f1⟩ := field_lt c 1009 10 (by decide)
    obtain ⟨m, hm⟩ : ∃ m : Nat, m = (manyL.getD (fieldL c 1009 10).toNat 0).toNat := ⟨_, rfl⟩
    have hm5 : ∀ i, i < 10 → 0 ≤ manyL.getD i 0 ∧ manyL.getD i 0 ≤ 5 := by decide
    have hmi : manyL.getD (fieldL c 1009 10).toNat 0 = (m : Int) := by have := hm5 (fieldL c 1009 10).toNat (by omega); omega
    have hm6 : m ≤ 5 := by have := hm5 (fieldL c 1009 10).toNat (by omega); omega
    refine rz_seq sR (rd_set (d := .int (m : Int)) (ed_op (ed_lst (ds := manyL.map .int) (ea_cons ed_int (ea_cons ed_int (ea_cons ed_int (ea_cons ed_int (ea_cons ed_int (ea_cons ed_int (ea_cons ed_int (ea_cons ed_int (ea_cons ed_int (ea_cons ed_int ea_nil))))))))))) (fld 1009 10 (by decide) (by decide) (by decide) rfl) (rv_ixL (by rw [← hmi]; exact int_at (k := (fieldL c 1009 10).toNat) (by show _ < 10; omega) (by omega)))) ?_)
    refine rz_seq sR (rd_set (fld 2003 3 (by decide) (by decide) (by decide) rfl) ?_)
    obtain ⟨g0, g1⟩ := field_lt c 2003 3 (by decide)
    generalize fieldL c 2003 3 = kind at g0 g1 ⊢
    refine rz_seq sR (RunD.imp (P' := fun o => ∃ m' : Nat, m' ≤ 5 ∧ o = .nx [some (.scr ns), some (.int c), some (.int (m' : Int)), some (.int kind), none, none, none, none]) (rd_if (et_test (ed_op (ed_var rfl) ed_int rv_eqI)) (fun h => rd_set (d := .int ((min m 4 : Nat) : Int)) ((ed_cb (ea_cons (ed_var rfl) (ea_cons ed_int ea_nil)) rc_min2).to (by congr 1; omega)) ⟨min m 4, by omega, rfl⟩) fun h => rd_next ⟨m, hm6, rfl⟩) ?_)
    rintro _ ⟨m', hm', rfl⟩
    refine rz_open (new_lst ea_nil) (Nat.le_of_ble_eq_true rfl) ?_
    have ecell : ∀ {G : Gam} {k : Nat}, G[0]? = some (some (.scr ns)) → G[5]? = some (some (.int (k : Int))) → k ≤ 5 → EvD (sysOf K) (tCall (spF (sysOf K) R_law_cell_at) [] E0 (tCons (tVar 0) (tCons (tOp (rI0 fun i j => .int (i + j)) (tC (.int 3)) (tVar 5)) tNil))) G (.int (cellAt ns (3 + k))) := fun {G k} h0 h5 hk =>
      ed_call (ea_cons (ed_var h0) (ea_cons ((ed_op ed_int (ed_var h5) rv_add).to (congrArg Dat.int (by omega : (3 : Int) + (k : Int) = ((3 + k : Nat) : Int)))) ea_nil)) ⟨ns, 3 + k, rfl, by omega, rfl⟩
    refine mz_seq (rm_for_range (n := (m' : Int)) (EvD.l (ed_var rfl)) (by omega) (by omega) (fun k G w => ∃ x5 x6 x7 ps, G = [some (.scr ns), some (.int c), some (.int (m' : Int)), some (.int kind), none, x5, x6, x7] ∧ w = .L (ps.map pinT) ∧ ps.length = k ∧ PinsOk c ps) ⟨_, _, _, [], rfl, rfl, rfl, ⟨(fun k p h => by simp at h), List.nodup_nil, (fun p h => by cases h), (fun p h => by cases h)⟩⟩ ?_ ?_)
    · rintro k G w hk ⟨x5, x6, x7, ps, rfl, rfl, hpl, pok⟩
      have hk5 : k ≤ 4 := by omega
      obtain ⟨sb1, sb2⟩ := spot_b (cellAt ns (3 + k)) kind
      refine ⟨_, tm_name (by decide), rm_seq (rm_set (by decide) (EvD.l (ed_call (ea_cons (ecell rfl rfl (by omega)) (ea_cons (ed_var rfl) ea_nil)) ⟨cellAt ns (3 + k), kind, rfl, rfl⟩)) ?_)⟩
      refine rm_seq (rm_whileL (fun n G w => ∃ x7 s, G = [some (.scr ns), some (.int c), some (.int (m' : Int)), some (.int kind), none, some (.int (k : Int)), some (way s), x7] ∧ w = .L (ps.map pinT) ∧ n = cnt ps s ∧ NumB (600000 + 1000 * (ps.length - n)) s.1 ∧ NumB 600000 s.2) _ ⟨_, spotL (cellAt ns (3 + k)) kind, rfl, rfl, rfl, ⟨sb1.1, sb1.2.1, by have := sb1.2.2; omega⟩, sb2⟩ ?_)
      rintro n G w ⟨x7, s, rfl, rfl, rfl, b1, b2⟩
      refine ⟨decide (s ∈ ps.map fun p => (p.x, p.y)), EvT.own (et_test (ed_op (y := .lst ((ps.map fun p => (p.x, p.y)).map way)) (ed_var rfl) (ed_lc_list (ds := ps.map pinT) (rs := (ps.map fun p => (p.x, p.y)).map way) (ed_var rfl) (by simp) (by rw [List.length_map]; omega) fun j d r hd hr => ?_) rv_inW)), fun hb => ?_, fun hb => ?_⟩
      · obtain ⟨p, hp, rfl⟩ := map_get hd
        obtain ⟨q, hq, rfl⟩ := map_get hr
        obtain ⟨p', hp', rfl⟩ := map_get hq
        rw [hp] at hp'
        cases hp'
        exact ed_op (ed_var rfl) ed_int (rv_ixT (ds := [.str _, spotD _, waysD _]) rfl)
      · have hin : s ∈ ps.map fun p => (p.x, p.y) := of_decide_eq_true hb
        have hlt := cnt_lt b1.1 hin
        have hle := cnt_le ps s
        refine rm_set (d := way (sumL s.1 (1, 1), s.2)) (by decide) (EvD.l (ed_tup (ea_cons (ed_call (ea_cons (ed_op (ed_var rfl) ed_int (rv_ixT (ds := [num _, num _]) rfl)) (ea_cons (ed_tup (ea_cons ed_int (ea_cons ed_int ea_nil))) ea_nil)) ⟨s.1, (1, 1), 64, 1, rfl, (b1.good (by omega)).1, sz_one, by decide, rfl⟩) (ea_cons (ed_op (ed_var rfl) ed_int (rv_ixT (ds := [num _, num _]) rfl)) ea_nil)))) ⟨_, hlt, _, _, rfl, rfl, rfl, ?_, b2⟩
        obtain ⟨c1, c2, c3⟩ := b1
        refine ⟨?_, ?_, ?_⟩
        · show 0 < s.1.2 * 1
          omega
        · show s.1.2 * 1 ≤ 1000
          omega
        · show (s.1.1 * 1 + 1 * s.1.2).natAbs ≤ _
          omega
      · have hnin : ¬ s ∈ ps.map fun p => (p.x, p.y) := of_decide_eq_false hb
        refine rm_append (d := pinT ⟨nameL c k, s.1, s.2, waysL (cellAt ns (3 + k))⟩) (EvD.l (ed_tup (ea_cons (ed_call (ea_cons (ed_var rfl) (ea_cons (ed_var rfl) ea_nil)) ⟨c, k, rfl, by omega, rfl⟩) (ea_cons (ed_var rfl) (ea_cons (ed_call (ea_cons (ecell rfl rfl (by omega)) ea_nil) ⟨cellAt ns (3 + k), rfl, rfl⟩) ea_nil))))) (by rw [List.length_map]; omega) ⟨_, _, _, ps ++ [⟨nameL c k, s.1, s.2, waysL (cellAt ns (3 + k))⟩], rfl, by rw [List.map_append]; rfl, by rw [List.length_append, hpl]; rfl, ?_⟩
        have hb1 : NumB 700000 s.1 := ⟨b1.1, b1.2.1, by have := b1.2.2; have := cnt_le ps s; omega⟩
        have hb2 : NumB 700000 s.2 := ⟨b2.1, b2.2.1, by have := b2.2.2; omega⟩
        exact pok.snoc (by rw [hpl]) hnin ⟨hb1, hb2⟩ (ways_ok _)
    · rintro G w ⟨x5, x6, x7, ps, rfl, rfl, hpl, pok⟩
      exact mz_ret (Nat.le_of_ble_eq_true rfl) fun Hs H0 H2 H' v st dv => ⟨H2, ps, c, st, dv, pok, by omega⟩
structure BarsOk (n : Nat) (c : Int) (bs : List LBar) : Prop where
  nm : ∀ k b, bs[k]? = some b → b.1 = nameL c k
  bi : ∀ b ∈ bs, b.2.1 < n ∧ b.2.2 < n ∧ b.2.1 ≠ b.2.2
theorem BarsOk.snoc {n : Nat} {c : Int} {bs : List LBar} {b : LBar} (h : BarsOk n c bs) (h1 : b.1 = nameL c bs.length) (h2 : b.2.1 < n ∧ b.2.2 < n ∧ b.2.1 ≠ b.2.2) : BarsOk n c (bs ++ [b]) := by
  refine ⟨fun k q hq => ?_, fun q hq => ?_⟩
  · by_cases hk : k < bs.length
    · rw [List.getElem?_append_left hk] at hq
      exact h.nm k q hq
    · have hkl := (List.getElem?_eq_some_iff.mp hq).1
      rw [List.length_append, List.length_singleton] at hkl
      have e : k = bs.length := by omega
      subst e
      rw [List.getElem?_append_right (Nat.le_refl _), Nat.sub_self] at hq
      cases hq
      exact h1
  · rcases List.mem_append.mp hq with hq | hq
    · exact h.bi q hq
    · rw [List.mem_singleton.mp hq]
      exact h2
theorem ed_lenP {S : Sys} {te : TE} {G : Gam} {ps : List Pin} (h : EvD S te G (pinsT ps)) : EvD S (tCB (fun xs H Q => ∃ p ys, xs = [V.ref p] ∧ (SqL S.K H p ys ∨ SqT S.K H p ys) ∧ Q (.int ys.length) H) (tCons te tNil)) G (.int (ps.length : Int)) := (ed_cb (ea_cons h ea_nil) (rc_lenL (ds := ps.map pinT))).to (by rw [List.length_map])
theorem ed_lenB {S : Sys} {te : TE} {G : Gam} {bs : List LBar} (h : EvD S te G (barsT bs)) : EvD S (tCB (fun xs H Q => ∃ p ys, xs = [V.ref p] ∧ (SqL S.K H p ys ∨ SqT S.K H p ys) ∧ Q (.int ys.length) H) (tCons te tNil)) G (.int (bs.length : Int)) := (ed_cb (ea_cons h ea_nil) (rc_lenL (ds := bs.map barT))).to (by rw [List.length_map])
/-- two different ends -/
theorem ends_ok {n : Nat} {one step : Int} (h1 : 0 ≤ one) (h2 : one < n) (h3 : 0 ≤ step) (h4 : step < n - 1) : one.toNat < n ∧ ((one + (1 + step)) % n).toNat < n ∧ one.toNat ≠ ((one + (1 + step)) % n).toNat ∧ 0 ≤ (one + (1 + step)) % n := by
  have a := Int.emod_nonneg (one + (1 + step)) (show (n : Int) ≠ 0 by omega)
  have b := Int.emod_lt_of_pos (one + (1 + step)) (show (0 : Int) < n by omega)
  have key : (one + (1 + step)) % n ≠ one := by
    by_cases z : one + (1 + step) < n
    · rw [Int.emod_eq_of_lt (by omega) z]
      omega
    · have e : (one + (1 + step)) % n = one + (1 + step) - n := by
        rw [← Int.sub_emod_right, Int.emod_eq_of_lt (by omega) (by omega)]
      rw [e]
      omega
  omega
def Post_law_bars (K : PySem.W.Frag) (j : List Int × List Pin) (H1 H : Hp) (v : V) (H' : Hp) : Prop := ∃ H2 bs c, Step H1 H H2 H' ∧ Dt (sysOf K) H2 v (barsT bs) ∧ BarsOk j.2.length c bs ∧ bs.length ≤ 7
theorem ok_law_bars (T : Txt K mg) (B : Bas Pr base) : FnOk Pr w K mg base CX0 42 (He.ga K "_law_bars") (fdAt K (He.ga K "_law_bars")) ["_law_script", "_law_pins_here"] (spZ (sysOf K) (fun (j : List Int × List Pin) ds => ds = [.scr j.1, pinsT j.2] ∧ 2 ≤ j.2.length) (Post_law_bars K)) := by
  refine rz_ok (S := sysOf K) (k := 41) T.F_law_bars sc_law_bars (fun j ds h => ?_) (fun cdv A outer s H E hr => ?_)
  · obtain ⟨rfl, _⟩ := h
    rfl
  · refine ⟨_, (pss_cons (ps_set (i := 2) (sc_law_bars).nd rfl (Or.inl rfl) (pe_call (ok_law_cell_at T B) (hr.mono (by decide)) rfl T.g_law_cell_at T.F_law_cell_at.kp T.b_law_cell_at .nil pass0 (pa_cons (pv 0) (pa_cons pe_int pa_nil)))) (pss_cons (ps_set (i := 3) (sc_law_bars).nd rfl (Or.inl rfl) (pe_call (ok_law_field T B) (hr.mono (by decide)) rfl T.g_law_field T.F_law_field.kp T.b_law_field .nil pass0 (pa_cons (pv 2) (pa_cons pe_int (pa_cons pe_int pa_nil))))) (pss_cons (ps_if (pt_cmpR op_lt (pe_callB call_len_seq (by rfl) T.n_len (by decide +kernel) (pa_cons (pv 1) pa_nil)) pe_int (nomark _)) (pss_one (ps_set (i := 3) (sc_law_bars).nd rfl (Or.inl rfl) pe_int)) pss_nil) (pss_cons (ps_set (i := 4) (sc_law_bars).nd rfl (Or.inl rfl) (pe_lst pa_nil)) (pss_cons (ps_for PassesOwn.never rfl (pi_range1 rfl T.n_range (pa_cons (pv 3) pa_nil)) (pg_name (i := 5) (sc_law_bars).nd rfl (Or.inl rfl)) (pss_cons (ps_set (i := 6) (sc_law_bars).nd rfl (Or.inl rfl) (pe_call (ok_law_field T B) (hr.mono (by decide)) rfl T.g_law_field T.F_law_field.kp T.b_law_field .nil pass0 (pa_cons (pe_call (ok_law_cell_at T B) (hr.mono (by decide)) rfl T.g_law_cell_at T.F_law_cell_at.kp T.b_law_cell_at .nil pass0 (pa_cons (pv 0) (pa_cons (pe_op op_add pe_int (pv 5)) pa_nil))) (pa_cons pe_int (pa_cons (pe_callB call_len_seq (by rfl) T.n_len (by decide +kernel) (pa_cons (pv 1) pa_nil)) pa_nil))))) (pss_cons (ps_set (i := 7) (sc_law_bars).nd rfl (Or.inl rfl) (pe_op op_add pe_int (pe_call (ok_law_field T B) (hr.mono (by decide)) rfl T.g_law_field T.F_law_field.kp T.b_law_field .nil pass0 (pa_cons (pe_call (ok_law_cell_at T B) (hr.mono (by decide)) rfl T.g_law_cell_at T.F_law_cell_at.kp T.b_law_cell_at .nil pass0 (pa_cons (pv 0) (pa_cons (pe_op op_add pe_int (pv 5)) pa_nil))) (pa_cons pe_int (pa_cons (pe_op op_sub (pe_callB call_len_seq (by rfl) T.n_len (by decide +kernel) (pa_cons (pv 1) pa_nil)) pe_int) pa_nil)))))) (pss_one (ps_expr (pe_bm PySem.F.plainAttrs_list PySem.F.slot_list_append PySem.F.type_list_append mt_append (pv 4) (pa_cons (pe_tup (pa_cons (pe_call (ok_law_name T B) (hr.mono (by decide)) rfl T.g_law_name T.F_law_name.kp T.b_law_name .nil pass0 (pa_cons (pv 2) (pa_cons (pv 5) pa_nil))) (pa_cons (pv 6) (pa_cons (pe_op op_mod (pe_op op_add (pv 6) (pv 7)) (pe_callB call_len_seq (by rfl) T.n_len (by decide +kernel) (pa_cons (pv 1) pa_nil))) pa_nil)))) pa_nil))))))) (pss_one (ps_ret (pv 4)))))))), fun ⟨ns, ps⟩ ds h => ?_⟩
    obtain ⟨rfl, hp2⟩ := h
    dsimp only at hp2 ⊢
    have sR : Stable (Post_law_bars K (ns, ps)) := fun H1 H Ha Hb v H' s p => by
      obtain ⟨H2, bs, c, s2, r⟩ := p
      exact ⟨H2, bs, c, s.trans s2, r⟩
    refine rz_seq sR (rd_set (ed_call (ea_cons (ed_var rfl) (ea_cons ed_int ea_nil)) ⟨ns, 1, rfl, by decide, rfl⟩) ?_)
    generalize cellAt ns 1 = c
    obtain ⟨f0, f1⟩ := field_lt c 1009 8 (by decide)
    obtain ⟨m, hm⟩ : ∃ m : Nat, fieldL c 1009 8 = (m : Int) := ⟨(fieldL c 1009 8).toNat, by omega⟩
    refine rz_seq sR (rd_set (ed_call (ea_cons (ed_var rfl) (ea_cons ed_int (ea_cons ed_int ea_nil))) ⟨c, 1009, 8, rfl, by decide, by decide, by decide, rfl⟩) ?_)
    rw [hm]
    refine rz_seq sR (rd_if (b := false) ((et_test (ed_op (ed_lenP (ed_var rfl)) ed_int rv_lt)).to (decide_eq_false (by omega))) (fun h => by cases h) fun _ => rd_next ?_)
    refine rz_open (new_lst ea_nil) (Nat.le_of_ble_eq_true rfl) ?_
    have ecell : ∀ {G : Gam} {k : Nat}, G[0]? = some (some (.scr ns)) → G[5]? = some (some (.int (k : Int))) → k ≤ 7 → EvD (sysOf K) (tCall (spF (sysOf K) R_law_cell_at) [] E0 (tCons (tVar 0) (tCons (tOp (rI0 fun i j => .int (i + j)) (tC (.int 8)) (tVar 5)) tNil))) G (.int (cellAt ns (8 + k))) := fun {G k} h0 h5 hk =>
      ed_call (ea_cons (ed_var h0) (ea_cons ((ed_op ed_int (ed_var h5) rv_add).to (congrArg Dat.int (by omega : (8 : Int) + (k : Int) = ((8 + k : Nat) : Int)))) ea_nil)) ⟨ns, 8 + k, rfl, by omega, rfl⟩
    refine mz_seq (rm_for_range (n := (m : Int)) (EvD.l (ed_var rfl)) (by omega) (by omega) (fun k G w => ∃ x5 x6 x7 bs, G = [some (.scr ns), some (pinsT ps), some (.int c), some (.int (m : Int)), none, x5, x6, x7] ∧ w = .L (bs.map barT) ∧ bs.length = k ∧ BarsOk ps.length c bs) ⟨_, _, _, [], rfl, rfl, rfl, ⟨(fun k p h => by simp at h), (fun p h => by cases h)⟩⟩ ?_ ?_)
    · rintro k G w hk ⟨x5, x6, x7, bs, rfl, rfl, hbl, bok⟩
      have hk7 : k ≤ 6 := by omega
      obtain ⟨o0, o1⟩ := field_lt (cellAt ns (8 + k)) 1009 ps.length (by omega)
      obtain ⟨t0, t1⟩ := field_lt (cellAt ns (8 + k)) 2003 ((ps.length : Int) - 1) (by omega)
      obtain ⟨n1, n2, n3, n4⟩ := ends_ok o0 o1 t0 t1
      refine ⟨_, tm_name (by decide), rm_seq (rm_set (by decide) (EvD.l (ed_call (ea_cons (ecell rfl rfl (by omega)) (ea_cons ed_int (ea_cons (ed_lenP (ed_var rfl)) ea_nil))) ⟨_, 1009, (ps.length : Int), rfl, by decide, by decide, by omega, rfl⟩)) ?_)⟩
      refine rm_seq (rm_set (by decide) (EvD.l (ed_op ed_int (ed_call (ea_cons (ecell rfl rfl (by omega)) (ea_cons ed_int (ea_cons (ed_op (ed_lenP (ed_var rfl)) ed_int rv_sub) ea_nil))) ⟨_, 2003, (ps.length : Int) - 1, rfl, by decide, by decide, by omega, rfl⟩) rv_add)) ?_)
      refine rm_append (d := barT (nameL c k, (fieldL (cellAt ns (8 + k)) 1009 ps.length).toNat, ((fieldL (cellAt ns (8 + k)) 1009 ps.length + (1 + fieldL (cellAt ns (8 + k)) 2003 ((ps.length : Int) - 1))) % ps.length).toNat)) (EvD.l ((ed_tup (ea_cons (ed_call (ea_cons (ed_var rfl) (ea_cons (ed_var rfl) ea_nil)) ⟨c, k, rfl, by omega, rfl⟩) (ea_cons (ed_var rfl) (ea_cons (ed_op (ed_op (ed_var rfl) (ed_var rfl) rv_add) (ed_lenP (ed_var rfl)) (rv_mod (by omega))) ea_nil)))).to ?_)) (by rw [List.length_map]; omega) ⟨_, _, _, bs ++ [_], rfl, by rw [List.map_append]; rfl, by rw [List.length_append, hbl]; rfl, bok.snoc (by rw [hbl]) ⟨n1, n2, n3⟩⟩
      unfold barT
      dsimp only
      rw [Int.toNat_of_nonneg o0, Int.toNat_of_nonneg n4]
    · rintro G w ⟨x5, x6, x7, bs, rfl, rfl, hbl, bok⟩
      exact mz_ret (Nat.le_of_ble_eq_true rfl) fun Hs H0 H2 H' v st dv => ⟨H2, bs, c, st, dv, bok, by omega⟩
end
end Ty
set_option Elab.async false
set_option linter.all false
set_option maxRecDepth 100000
set_option maxHeartbeats 4000000
/-! _law_new. -/
namespace Ty
open PySem PySem.Spec PyProof.Rows L2
section
variable {S : Sys} {i : Nat} {te : TE} {ta : TA} {G : Gam} {w w' : Own} {t u a b : TS} {c : TT} {k : Bool} {R : Hp → Hp → V → Hp → Prop} {ds : List Dat}
theorem elL_lst (h : EaL S i ta G w ds) (hl : ds.length ≤ 1000 := by first | exact Nat.le_of_ble_eq_true rfl | simp) : EvL S i (tLst ta) G w (.lst ds) := fun σ H1 H D e E a Q q =>
  h σ H1 H D e E a _ fun H2 H' vs s1 d1 => ⟨by rw [d1.length]; exact Nat.le_of_lt (small1000 hl), fun p hp => q _ _ _ (s1.trans (Step.new s1.s2 hp)) (.lst upd_same (d1.mono (same_new (s1.s2.free hp))))⟩
theorem mz_if (h : EvT S c G k) (h1 : k = true → RunMZ S i (tSeq t u) G w R) (h2 : k = false → RunMZ S i u G w R) : RunMZ S i (tSeq (tIfS c t tNext) u) G w R := fun σ Hs H0 H1 H Ds D st hD E a q =>
  h σ H1 H st.s2 E _ fun H2 H' s => by
    cases k with
    | true => exact iteT (h1 rfl σ Hs H0 H2 H' Ds D (st.trans s) hD (E.mono s.s1) (a.step s).1 q)
    | false => exact iteF (h2 rfl σ Hs H0 H2 H' Ds D (st.trans s) hD (E.mono s.s1) (a.step s).1 q)
theorem mz_assoc (h : RunMZ S i (tSeq a (tSeq b u)) G w R) : RunMZ S i (tSeq (tSeq a b) u) G w R := h
theorem mz_rebind (h : NewO S te G w') (hb : RunMZ S i u G w' R) (hG : G[i]? = some none) : RunMZ S i (tSeq (tAsg te (gName i)) u) G w R := fun σ Hs H0 H1 H Ds D st hD E a q =>
  h σ H1 H st.s2 E _ fun H2 H' D2 o s hD2 hn ho hw => by
    have hi : i < G.length := (List.getElem?_eq_some_iff.mp hG).1
    have e : G.set i none = G := by
      refine List.ext_getElem? fun j => ?_
      by_cases z : j = i
      · subst z
        rw [List.getElem?_set_self hi, hG]
      · rw [List.getElem?_set_ne (Ne.symm z)]
    refine hb (σ.set i (some (.ref D2))) Hs H0 H2 H' Ds D2 (st.trans s) (st.s3.free hD2) ?_ ⟨List.getElem?_set_self (by rw [E.len]; exact hi), hn, o, ho, hw⟩ q
    have := (E.mono s.s1).setN (i := i) (v := some (.ref D2))
    rwa [e] at this
theorem mz_done (sR : Stable R) (r : RunZ S u (G.set i (some w.dat)) R) : RunMZ S i u G w R := fun σ Hs H0 H1 H Ds D st hD E a q => by
  obtain ⟨sl, ap, o, ho, hw⟩ := a
  have st2 : Step Hs H0 (upd H1 D o) H := step_own st (StepM.refl st.s2 ap) hD ho
  refine r σ (upd H1 D o) H Ds st2.s2 ⟨by rw [List.length_set]; exact E.len, fun j d' q => ?_⟩ fun v H' p => q v H' (sR _ _ _ _ _ _ st2 p)
  by_cases z : j = i
  · subst z
    have hl : j < G.length := by
      have := (List.getElem?_eq_some_iff.mp q).1
      rwa [List.length_set] at this
    rw [List.getElem?_set_self hl] at q
    cases q
    exact ⟨_, sl, hw.dt ap⟩
  · rw [List.getElem?_set_ne (Ne.symm z)] at q
    obtain ⟨v, h1, h2⟩ := E.at_ j d' q
    exact ⟨v, h1, h2.mono (same_new ap)⟩
end
structure NmOk (ps : List Pin) (bs : List LBar) : Prop where
  z : ∀ p ∈ ps, p.name ≠ "z" ∧ p.name ≠ "zz"
  n : ∀ b ∈ bs, b.1 ≠ "new"
  s : ∀ b ∈ bs, PyData.strOk b.1 = true
def errTx : Err → Str
  | .bar x => x
  | .pin x => x
  | .len x => x
  | .many => ""
structure NewOk (ps : List Pin) (bs : List LBar) (n x y : Str) (due : Dat) (i j : Nat) : Prop where
  li : i < ps.length
  lj : j < ps.length
  ne : i ≠ j
  d : (due = .non ∧ n = "new" ∧ x = nameAt ps i ∧ y = nameAt ps j) ∨ ∃ e, due = errD e ∧ PyData.strOk (errTx e) = true ∧ askOf (frameOf ps bs) n x y = some e
theorem barAt_not {ps : List Pin} {bs : List LBar} {n : Str} (h : ∀ b ∈ bs, b.1 ≠ n) : (frameOf ps bs).barAt n = none := by
  unfold Frm.barAt frameOf
  refine List.find?_eq_none.mpr fun b hb => ?_
  obtain ⟨x, hx, rfl⟩ := List.mem_map.mp hb
  rw [Bool.not_eq_true]
  exact decide_eq_false (h x hx)
theorem pinAt_not {ps : List Pin} {bs : List LBar} {x : Str} (h : ∀ p ∈ ps, p.name ≠ x) : (frameOf ps bs).pinAt x = none := by
  unfold Frm.pinAt frameOf
  refine List.find?_eq_none.mpr fun b hb => ?_
  simpa using h b hb
section
variable {Pr : Program} {w : World} {K : PySem.W.Frag} {mg : Str → Option Value} {base : Heap}
def Pre_law_new (j : List Int × List Pin × List LBar) (ds : List Dat) : Prop := ds = [.scr j.1, pinsT j.2.1, barsT j.2.2] ∧ 2 ≤ j.2.1.length ∧ LOk j.2.1 j.2.2 ∧ NmOk j.2.1 j.2.2
def Post_law_new (K : PySem.W.Frag) (q : List Int × List Pin × List LBar) (H1 H : Hp) (v : V) (H' : Hp) : Prop := ∃ H2 n x y due i j, Step H1 H H2 H' ∧ Dt (sysOf K) H2 v (.tup [.lst [.str n, .str x, .str y], due, .lst [.int (i : Nat), .int (j : Nat)]]) ∧ NewOk q.2.1 q.2.2 n x y due i j
theorem ok_law_new (T : Txt K mg) (B : Bas Pr base) : FnOk Pr w K mg base CX0 42 (He.ga K "_law_new") (fdAt K (He.ga K "_law_new")) ["_law_script", "_law_pins_here", "_law_bars_here"] (spZ (sysOf K) Pre_law_new (Post_law_new K)) := by
  refine rz_ok (S := sysOf K) (k := 41) T.F_law_new sc_law_new (fun j ds h => ?_) (fun cdv A outer s H E hr => ?_)
  · obtain ⟨rfl, _⟩ := h
    rfl
  · refine ⟨_, (pss_cons (ps_set (i := 3) (sc_law_new).nd rfl (Or.inl rfl) (pe_call (ok_law_cell_at T B) (hr.mono (by decide)) rfl T.g_law_cell_at T.F_law_cell_at.kp T.b_law_cell_at .nil pass0 (pa_cons (pv 0) (pa_cons pe_int pa_nil)))) (pss_cons (ps_set (i := 4) (sc_law_new).nd rfl (Or.inl rfl) (pe_call (ok_law_field T B) (hr.mono (by decide)) rfl T.g_law_field T.F_law_field.kp T.b_law_field .nil pass0 (pa_cons (pv 3) (pa_cons pe_int (pa_cons (pe_callB call_len_seq (by rfl) T.n_len (by decide +kernel) (pa_cons (pv 1) pa_nil)) pa_nil))))) (pss_cons (ps_set (i := 5) (sc_law_new).nd rfl (Or.inl rfl) (pe_op op_mod (pe_op op_add (pe_op op_add (pv 4) pe_int) (pe_call (ok_law_field T B) (hr.mono (by decide)) rfl T.g_law_field T.F_law_field.kp T.b_law_field .nil pass0 (pa_cons (pv 3) (pa_cons pe_int (pa_cons (pe_op op_sub (pe_callB call_len_seq (by rfl) T.n_len (by decide +kernel) (pa_cons (pv 1) pa_nil)) pe_int) pa_nil))))) (pe_callB call_len_seq (by rfl) T.n_len (by decide +kernel) (pa_cons (pv 1) pa_nil)))) (pss_cons (ps_set (i := 6) (sc_law_new).nd rfl (Or.inl rfl) (pe_lst (pa_cons pe_str (pa_cons (pe_ix ix_tup (pe_ix ix_list (pv 1) (pv 4) (fun _ _ => rfl)) pe_int (fun _ _ => rfl)) (pa_cons (pe_ix ix_tup (pe_ix ix_list (pv 1) (pv 5) (fun _ _ => rfl)) pe_int (fun _ _ => rfl)) pa_nil))))) (pss_cons (ps_set (i := 7) (sc_law_new).nd rfl (Or.inl rfl) (pe_call (ok_law_field T B) (hr.mono (by decide)) rfl T.g_law_field T.F_law_field.kp T.b_law_field .nil pass0 (pa_cons (pv 3) (pa_cons pe_int (pa_cons pe_int pa_nil))))) (pss_cons (ps_set (i := 8) (sc_law_new).nd rfl (Or.inl rfl) pe_non) (pss_cons (ps_if (pt_cmpR op_eq (pv 7) pe_int (nomark _)) (pss_cons (ps_asg (pe_ix ix_list (pv 6) pe_int (fun _ _ => rfl)) (pg_sub (pv 6) pe_int set_list)) (pss_one (ps_set (i := 8) (sc_law_new).nd rfl (Or.inl rfl) (pe_lst (pa_cons pe_str (pa_cons pe_str (pa_cons pe_bl (pa_cons pe_bl pa_nil)))))))) pss_nil) (pss_cons (ps_if (PW.pt (pw_and (pt_cmpR op_eq (pv 7) pe_int (nomark _)) (pw_and1 (pt_cmpR op_eq (pe_op op_mod (pv 3) pe_int) pe_int (nomark _))))) (pss_cons (ps_set (i := 6) (sc_law_new).nd rfl (Or.inl rfl) (pe_lst (pa_cons pe_str (pa_cons pe_str (pa_cons pe_str pa_nil))))) (pss_one (ps_set (i := 8) (sc_law_new).nd rfl (Or.inl rfl) (pe_lst (pa_cons pe_str (pa_cons pe_str (pa_cons pe_bl (pa_cons pe_bl pa_nil)))))))) pss_nil) (pss_cons (ps_if (PW.pt (pw_or (pt_cmpR op_eq (pv 7) pe_int (nomark _)) (pw_or1 (PW.pt (pw_and (pt_cmpR op_eq (pv 7) pe_int (nomark _)) (pw_and1 (pt_cmpR op_eq (pe_op op_mod (pv 3) pe_int) pe_int (nomark _)))))))) (pss_cons (ps_asg pe_str (pg_sub (pv 6) pe_int set_list)) (pss_one (ps_set (i := 8) (sc_law_new).nd rfl (Or.inl rfl) (pe_lst (pa_cons pe_str (pa_cons pe_str (pa_cons pe_bl (pa_cons pe_bl pa_nil)))))))) pss_nil) (pss_cons (ps_if (pt_cmpR op_eq (pv 7) pe_int (nomark _)) (pss_cons (ps_asg pe_str (pg_sub (pv 6) pe_int set_list)) (pss_one (ps_set (i := 8) (sc_law_new).nd rfl (Or.inl rfl) (pe_lst (pa_cons pe_str (pa_cons pe_str (pa_cons pe_bl (pa_cons pe_bl pa_nil)))))))) pss_nil) (pss_cons (ps_if (PW.pt (pw_and (pt_cmpR op_eq (pv 7) pe_int (nomark _)) (pw_and1 (pt_cmpR op_gt (pe_callB call_len_seq (by rfl) T.n_len (by decide +kernel) (pa_cons (pv 2) pa_nil)) pe_int (nomark _))))) (pss_cons (ps_asg (pe_ix ix_tup (pe_ix ix_list (pv 2) (pe_call (ok_law_field T B) (hr.mono (by decide)) rfl T.g_law_field T.F_law_field.kp T.b_law_field .nil pass0 (pa_cons (pv 3) (pa_cons pe_int (pa_cons (pe_callB call_len_seq (by rfl) T.n_len (by decide +kernel) (pa_cons (pv 2) pa_nil)) pa_nil)))) (fun _ _ => rfl)) pe_int (fun _ _ => rfl)) (pg_sub (pv 6) pe_int set_list)) (pss_cons (ps_set (i := 8) (sc_law_new).nd rfl (Or.inl rfl) (pe_lst (pa_cons pe_str (pa_cons (pe_ix ix_list (pv 6) pe_int (fun _ _ => rfl)) (pa_cons pe_bl (pa_cons pe_bl pa_nil)))))) (pss_one (ps_if (pt_cmpR op_eq (pe_op op_mod (pv 3) pe_int) pe_int (nomark _)) (pss_one (ps_asg pe_str (pg_sub (pv 6) pe_int set_list))) pss_nil)))) pss_nil) (pss_one (ps_ret (pe_tup (pa_cons (pv 6) (pa_cons (pv 8) (pa_cons (pe_lst (pa_cons (pv 4) (pa_cons (pv 5) pa_nil))) pa_nil))))))))))))))))), fun ⟨ns, ps, bs⟩ ds h => ?_⟩
    obtain ⟨rfl, hp2, lok, nok⟩ := h
    dsimp only at hp2 lok nok ⊢
    have sR : Stable (Post_law_new K (ns, ps, bs)) := fun H1 H Ha Hb v H' s p => by
      obtain ⟨H2, n, x, y, due, i, j, s2, r⟩ := p
      exact ⟨H2, n, x, y, due, i, j, s.trans s2, r⟩
    refine rz_seq sR (rd_set (ed_call (ea_cons (ed_var rfl) (ea_cons ed_int ea_nil)) ⟨ns, 2, rfl, by decide, rfl⟩) ?_)
    generalize cellAt ns 2 = c
    have fld : ∀ {G : Gam} {tm : TE} (p m : Int), 0 < p → p < 1073741824 → 0 < m → G[3]? = some (some (.int c)) → EvD (sysOf K) tm G (.int m) → EvD (sysOf K) (tCall (spF (sysOf K) R_law_field) [] E0 (tCons (tVar 3) (tCons (tC (.int p)) (tCons tm tNil)))) G (.int (fieldL c p m)) := fun p m hp hp2 hm h h2 => ed_call (ea_cons (ed_var h) (ea_cons ed_int (ea_cons h2 ea_nil))) ⟨c, p, m, rfl, hp, hp2, hm, rfl⟩
    obtain ⟨o0, o1⟩ := field_lt c 2003 ps.length (by omega)
    obtain ⟨t0, t1⟩ := field_lt c 3001 ((ps.length : Int) - 1) (by omega)
    obtain ⟨n1, n2, n3, n4⟩ := ends_ok o0 o1 t0 t1
    have eo : (fieldL c 2003 ps.length + 1 + fieldL c 3001 ((ps.length : Int) - 1)) = (fieldL c 2003 ps.length + (1 + fieldL c 3001 ((ps.length : Int) - 1))) := by omega
    obtain ⟨i, hi⟩ : ∃ i : Nat, i = (fieldL c 2003 ps.length).toNat := ⟨_, rfl⟩
    obtain ⟨j, hj⟩ : ∃ j : Nat, j = ((fieldL c 2003 ps.length + (1 + fieldL c 3001 ((ps.length : Int) - 1))) % ps.length).toNat := ⟨_, rfl⟩
    rw [← hi, ← hj] at n3
    rw [← hi] at n1
    rw [← hj] at n2
    refine rz_seq sR (rd_set (d := .int (i : Int)) ((fld 2003 ps.length (by decide) (by decide) (by omega) rfl (ed_lenP (ed_var rfl))).to (by rw [hi, Int.toNat_of_nonneg o0])) ?_)
    refine rz_seq sR (rd_set (d := .int (j : Int)) ((ed_op (ed_op (ed_op (ed_var rfl) ed_int rv_add) (fld 3001 ((ps.length : Int) - 1) (by decide) (by decide) (by omega) rfl (ed_op (ed_lenP (ed_var rfl)) ed_int rv_sub)) rv_add) (ed_lenP (ed_var rfl)) (rv_mod (by omega))).to (by rw [hi, hj, Int.toNat_of_nonneg o0, Int.toNat_of_nonneg n4, eo])) ?_)
    have pn : ∀ {G : Gam} {s j : Nat}, G[1]? = some (some (pinsT ps)) → G[s]? = some (some (.int j)) → j < ps.length → EvD (sysOf K) (tOp (rIxT K) (tOp (rIxL K) (tVar 1) (tVar s)) (tC (.int 0))) G (.str (nameAt ps j)) := fun {G s j} h0 hi hj =>
      ed_op (ed_op (ed_var h0) (ed_var hi) (rv_ixL (z := pinT (ps.getD j nilPin)) (at_ofD rfl (by rw [List.getElem?_map, List.getD_eq_getElem?_getD, List.getElem?_eq_getElem hj]; rfl)))) ed_int (rv_ixT (ds := [.str _, spotD _, waysD _]) rfl)
    refine rz_open (new_lst (ea_cons ed_str (ea_cons (pn rfl rfl n1) (ea_cons (pn rfl rfl n2) ea_nil)))) (Nat.le_of_ble_eq_true rfl) ?_
    obtain ⟨f0, f1⟩ := field_lt c 1009 8 (by decide)
    refine mz_seq (rm_set (by decide) (EvD.l (fld 1009 8 (by decide) (by decide) (by decide) rfl ed_int)) ?_)
    generalize fieldL c 1009 8 = kind at f0 f1 ⊢
    refine mz_seq (rm_set (by decide) (EvD.l ed_non) ?_)
    have due4 : ∀ {G : Gam} {x y : Str} {p q : Bool}, EvD (sysOf K) (tLst (tCons (tC (.str x)) (tCons (tC (.str y)) (tCons (tC (.bl p)) (tCons (tC (.bl q)) tNil))))) G (.lst [.str x, .str y, .bl p, .bl q]) := ed_lst (ea_cons ed_str (ea_cons ed_str (ea_cons ed_bl (ea_cons ed_bl ea_nil))))
    have pa1 := pinAt_ix (bs := (frameOf ps bs).bars) lok.pn n1
    have pa2 := pinAt_ix (bs := (frameOf ps bs).bars) lok.pn n2
    have hnew := barAt_not (ps := ps) nok.n
    have hz := pinAt_not (bs := bs) fun p hp => (nok.z p hp).1
    have hzz := pinAt_not (bs := bs) fun p hp => (nok.z p hp).2
    have hne : nameAt ps i ≠ nameAt ps j := fun e => n3 (name_inj lok.pn n1 n2 e)
    -- the end, whatever stands
    have fin : ∀ (n x y : Str) (due : Dat), NewOk ps bs n x y due i j → RunMZ (sysOf K) 6 (tRet (tTup (tCons (tVar 6) (tCons (tVar 8) (tCons (tLst (tCons (tVar 4) (tCons (tVar 5) tNil))) tNil))))) [some (.scr ns), some (pinsT ps), some (barsT bs), some (.int c), some (.int (i : Int)), some (.int (j : Int)), none, some (.int kind), some due] (.L [.str n, .str x, .str y]) (Post_law_new K (ns, ps, bs)) := fun n x y due hok =>
      mz_done sR (rz_ret (ed_tup (ea_cons (ed_var rfl) (ea_cons (ed_var rfl) (ea_cons (ed_lst (ea_cons (ed_var rfl) (ea_cons (ed_var rfl) ea_nil))) ea_nil)))) fun H1 H H2 H' v st dv => ⟨H2, n, x, y, due, i, j, st, dv, hok⟩)
    refine mz_if (et_test (ed_op (ed_var rfl) ed_int rv_eqI)) (fun h => ?_) fun h => ?_
    · have hk : kind = 0 := of_decide_eq_true h
      subst hk
      refine mz_assoc (mz_seq (rm_setL (j := 2) (d := .str (nameAt ps i)) (elL_ix ed_int rfl) ed_int rfl (mz_seq (rm_set (by decide) (EvD.l due4) ?_))))
      refine mz_if (k := decide (c % 4 = 0)) ((et_and (a := true) (et_test (ed_op (ed_var rfl) ed_int rv_eqI)) fun _ => et_test (ed_op (ed_op (ed_var rfl) ed_int (rv_mod (by decide))) ed_int rv_eqI)).to (Bool.true_and _)) (fun h2 => ?_) fun h2 => ?_
      · refine mz_assoc (mz_rebind (new_lst (ea_cons ed_str (ea_cons ed_str (ea_cons ed_str ea_nil)))) (mz_seq (rm_set (by decide) (EvD.l due4) ?_)) rfl)
        refine mz_if (k := false) (et_or (a := false) (et_test (ed_op (ed_var rfl) ed_int rv_eqI)) fun _ => et_and (a := false) (b := false) (et_test (ed_op (ed_var rfl) ed_int rv_eqI)) fun h => by cases h) (fun h => by cases h) fun _ => ?_
        refine mz_if (k := false) (et_test (ed_op (ed_var rfl) ed_int rv_eqI)) (fun h => by cases h) fun _ => ?_
        refine mz_if (k := false) (et_and (a := false) (b := false) (et_test (ed_op (ed_var rfl) ed_int rv_eqI)) fun h => by cases h) (fun h => by cases h) fun _ => ?_
        refine fin "new" "z" "z" (errD (.pin "z")) ⟨n1, n2, n3, .inr ⟨_, rfl, by decide +kernel, ?_⟩⟩
        unfold askOf
        rw [hnew, hz]
        rfl
      · refine mz_if (k := false) (et_or (a := false) (et_test (ed_op (ed_var rfl) ed_int rv_eqI)) fun _ => et_and (a := false) (b := false) (et_test (ed_op (ed_var rfl) ed_int rv_eqI)) fun h => by cases h) (fun h => by cases h) fun _ => ?_
        refine mz_if (k := false) (et_test (ed_op (ed_var rfl) ed_int rv_eqI)) (fun h => by cases h) fun _ => ?_
        refine mz_if (k := false) (et_and (a := false) (b := false) (et_test (ed_op (ed_var rfl) ed_int rv_eqI)) fun h => by cases h) (fun h => by cases h) fun _ => ?_
        refine fin "new" (nameAt ps i) (nameAt ps i) (errD (.len "new")) ⟨n1, n2, n3, .inr ⟨_, rfl, by decide +kernel, ?_⟩⟩
        unfold askOf
        rw [hnew, show (frameOf ps bs).pinAt (nameAt ps i) = _ from pa1]
        simp
    · have hk : kind ≠ 0 := of_decide_eq_false h
      refine mz_if (k := false) ((et_and (a := decide (kind = 0)) (b := false) (et_test (ed_op (ed_var rfl) ed_int rv_eqI)) fun h => absurd (of_decide_eq_true h) hk).to (by rw [decide_eq_false hk]; rfl)) (fun h => by cases h) fun _ => ?_
      have t1 : ∀ {z : Int} {G : Gam}, G[7]? = some (some (.int kind)) → EvT (sysOf K) (tTest (tOp rEq (tVar 7) (tC (.int z)))) G (decide (kind = z)) := fun h => et_test (ed_op (ed_var h) ed_int rv_eqI)
      have t3 : ∀ {z : Int} {G : Gam}, G[3]? = some (some (.int c)) → 0 < z → EvT (sysOf K) (tTest (tOp rEq (tOp _ (tVar 3) (tC (.int z))) (tC (.int 0)))) G (decide (c % z = 0)) := fun h hz => et_test (ed_op (ed_op (ed_var h) ed_int (rv_mod hz)) ed_int rv_eqI)
      have cc : ∀ {G : Gam}, G[7]? = some (some (.int kind)) → G[3]? = some (some (.int c)) → EvT (sysOf K) (tOr _ (tAnd _ _)) G (decide (kind = 1) || (decide (kind = 2) && decide (c % 3 = 0))) := fun h7 h3 => et_or (t1 h7) fun _ => et_and (t1 h7) fun _ => t3 (z := 3) h3 (by decide)
      by_cases k1 : kind = 1
      · refine mz_if ((cc rfl rfl).to (show _ = true by rw [k1]; rfl)) (fun _ => ?_) (fun h => by cases h)
        refine mz_assoc (mz_seq (rm_setL (j := 2) (d := .str "zz") (EvD.l ed_str) ed_int rfl (mz_seq (rm_set (by decide) (EvD.l due4) ?_))))
        refine mz_if (k := false) ((t1 rfl).to (by rw [k1]; rfl)) (fun h => by cases h) fun _ => ?_
        refine mz_if (k := false) ((et_and (a := decide (kind = 3)) (b := false) (t1 rfl) fun h => absurd (of_decide_eq_true h) (by rw [k1]; decide)).to (by rw [k1]; rfl)) (fun h => by cases h) fun _ => ?_
        refine fin "new" (nameAt ps i) "zz" (errD (.pin "zz")) ⟨n1, n2, n3, .inr ⟨_, rfl, by decide +kernel, ?_⟩⟩
        unfold askOf
        rw [hnew, show (frameOf ps bs).pinAt (nameAt ps i) = _ from pa1, hzz]
        rfl
      · by_cases k2 : kind = 2
        · by_cases c3 : c % 3 = 0
          · refine mz_if ((cc rfl rfl).to (show _ = true by rw [k2, c3]; rfl)) (fun _ => ?_) (fun h => by cases h)
            refine mz_assoc (mz_seq (rm_setL (j := 2) (d := .str "zz") (EvD.l ed_str) ed_int rfl (mz_seq (rm_set (by decide) (EvD.l due4) ?_))))
            refine mz_if (k := true) ((t1 rfl).to (by rw [k2]; rfl)) (fun _ => ?_) (fun h => by cases h)
            refine mz_assoc (mz_seq (rm_setL (j := 1) (d := .str "z") (EvD.l ed_str) ed_int rfl (mz_seq (rm_set (by decide) (EvD.l due4) ?_))))
            refine mz_if (k := false) ((et_and (a := decide (kind = 3)) (b := false) (t1 rfl) fun h => absurd (of_decide_eq_true h) (by rw [k2]; decide)).to (by rw [k2]; rfl)) (fun h => by cases h) fun _ => ?_
            refine fin "new" "z" "zz" (errD (.pin "z")) ⟨n1, n2, n3, .inr ⟨_, rfl, by decide +kernel, ?_⟩⟩
            unfold askOf
            rw [hnew, hz]
            rfl
          · refine mz_if ((cc rfl rfl).to (show _ = false by rw [k2, decide_eq_false c3]; rfl)) (fun h => by cases h) fun _ => ?_
            refine mz_if (k := true) ((t1 rfl).to (by rw [k2]; rfl)) (fun _ => ?_) (fun h => by cases h)
            refine mz_assoc (mz_seq (rm_setL (j := 1) (d := .str "z") (EvD.l ed_str) ed_int rfl (mz_seq (rm_set (by decide) (EvD.l due4) ?_))))
            refine mz_if (k := false) ((et_and (a := decide (kind = 3)) (b := false) (t1 rfl) fun h => absurd (of_decide_eq_true h) (by rw [k2]; decide)).to (by rw [k2]; rfl)) (fun h => by cases h) fun _ => ?_
            refine fin "new" "z" (nameAt ps j) (errD (.pin "z")) ⟨n1, n2, n3, .inr ⟨_, rfl, by decide +kernel, ?_⟩⟩
            unfold askOf
            rw [hnew, hz]
            rfl
        · refine mz_if ((cc rfl rfl).to (show _ = false by rw [decide_eq_false k1, decide_eq_false k2]; rfl)) (fun h => by cases h) fun _ => ?_
          refine mz_if (k := false) ((t1 rfl).to (decide_eq_false k2)) (fun h => by cases h) fun _ => ?_
          refine mz_if (k := decide (kind = 3) && decide (0 < (bs.length : Int))) (et_and (t1 rfl) fun _ => et_test (ed_op (ed_lenB (ed_var rfl)) ed_int rv_gt)) (fun h => ?_) fun h => ?_
          · obtain ⟨_, h2⟩ := Bool.and_eq_true_iff.mp h
            have hb : 0 < bs.length := by have := of_decide_eq_true h2; omega
            obtain ⟨b0, b1⟩ := field_lt c 4001 bs.length (by omega)
            obtain ⟨kb, hkb⟩ : ∃ kb : Nat, kb = (fieldL c 4001 bs.length).toNat := ⟨_, rfl⟩
            have hkl : kb < bs.length := by omega
            have ebar : EvD (sysOf K) (tOp (rIxT K) (tOp (rIxL K) (tVar 2) (tCall (spF (sysOf K) R_law_field) [] E0 (tCons (tVar 3) (tCons (tC (.int 4001)) (tCons (tCB (fun xs H Q => ∃ p ys, xs = [V.ref p] ∧ (SqL K H p ys ∨ SqT K H p ys) ∧ Q (.int ys.length) H) (tCons (tVar 2) tNil)) tNil))))) (tC (.int 0))) [some (.scr ns), some (pinsT ps), some (barsT bs), some (.int c), some (.int (i : Int)), some (.int (j : Int)), none, some (.int kind), some .non] (.str (bs.getD kb ("", 0, 0)).1) :=
              ed_op (ed_op (ed_var rfl) (fld 4001 bs.length (by decide) (by decide) (by omega) rfl (ed_lenB (ed_var rfl))) (rv_ixL (z := barT (bs.getD kb ("", 0, 0))) (at_ofD (j := kb) (by omega) (by rw [List.getElem?_map, List.getD_eq_getElem?_getD, List.getElem?_eq_getElem hkl]; rfl)))) ed_int (rv_ixT (ds := [.str _, .int _, .int _]) rfl)
            have hbm : bs.getD kb ("", 0, 0) ∈ bs := getD_mem hkl
            have hba : ((frameOf ps bs).barAt (bs.getD kb ("", 0, 0)).1).isSome = true := by
              have hm : barF ps (bs.getD kb ("", 0, 0)) ∈ (frameOf ps bs).bars := List.mem_map.mpr ⟨_, hbm, rfl⟩
              have := barAt_of lok.frm.bn hm
              rw [show (bs.getD kb ("", 0, 0)).1 = (barF ps (bs.getD kb ("", 0, 0))).1 from rfl, this]
              rfl
            have hask : ∀ x y, askOf (frameOf ps bs) (bs.getD kb ("", 0, 0)).1 x y = some (.bar (bs.getD kb ("", 0, 0)).1) := fun x y => by
              unfold askOf
              rw [if_pos hba]
            refine mz_assoc (mz_seq (rm_setL (j := 0) (d := .str (bs.getD kb ("", 0, 0)).1) (EvD.l ebar) ed_int rfl ?_))
            refine mz_assoc (mz_seq (rm_set (d := .lst [.str "BarThere", .str (bs.getD kb ("", 0, 0)).1, .bl true, .bl false]) (by decide) (elL_lst (eaL_cons (EvD.l ed_str) (eaL_cons (elL_ix ed_int rfl) (eaL_cons (EvD.l ed_bl) (eaL_cons (EvD.l ed_bl) eaL_nil))))) ?_))
            refine mz_if (t3 (z := 2) rfl (by decide)) (fun _ => ?_) fun _ => ?_
            · refine mz_seq (rm_setL (j := 1) (d := .str "zz") (EvD.l ed_str) ed_int rfl ?_)
              exact fin _ "zz" (nameAt ps j) (errD (.bar _)) ⟨n1, n2, n3, .inr ⟨_, rfl, nok.s _ hbm, hask _ _⟩⟩
            · exact fin _ (nameAt ps i) (nameAt ps j) (errD (.bar _)) ⟨n1, n2, n3, .inr ⟨_, rfl, nok.s _ hbm, hask _ _⟩⟩
          · exact fin "new" (nameAt ps i) (nameAt ps j) .non ⟨n1, n2, n3, .inl ⟨rfl, rfl, rfl, rfl⟩⟩
end
end Ty
set_option Elab.async false
set_option linter.all false
set_option maxRecDepth 100000
set_option maxHeartbeats 4000000
/-! Plain: what numbers are worth; the elimination is right. -/
namespace Ty
open PySem PySem.Spec
def val (q : Num) : Rat := (q.1 : Rat) / (q.2 : Rat)
theorem cast_ne {a : Int} (h : a ≠ 0) : (a : Rat) ≠ 0 := by
  intro z
  exact h (by exact_mod_cast z)
theorem val_div {t b g : Int} (hg : g ≠ 0) (hb : b ≠ 0) (h1 : g ∣ t) (h2 : g ∣ b) : val (t / g, b / g) = (t : Rat) / (b : Rat) := by
  obtain ⟨t', rfl⟩ := h1
  obtain ⟨b', rfl⟩ := h2
  have hb' : b' ≠ 0 := fun z => hb (by rw [z]; simp)
  unfold val
  dsimp only
  rw [Int.mul_ediv_cancel_left _ hg, Int.mul_ediv_cancel_left _ hg]
  have a := cast_ne hg
  have c := cast_ne hb'
  rw [Rat.intCast_mul, Rat.intCast_mul]
  grind
theorem val_ratio {t b : Int} (hb : b ≠ 0) : val (ratioOf t b) = (t : Rat) / (b : Rat) := by
  obtain ⟨d1, d2⟩ := gcd_dvd t b
  have g := gcd_ne (a := t) hb
  unfold ratioOf
  split
  · exact val_div (by omega) hb (by rw [Int.zero_sub]; exact (Int.neg_dvd).mpr d1) (by rw [Int.zero_sub]; exact (Int.neg_dvd).mpr d2)
  · exact val_div g hb d1 d2
theorem val_diff {p q : Num} (hp : p.2 ≠ 0) (hq : q.2 ≠ 0) : val (diffOf p q) = val p - val q := by
  unfold diffOf
  rw [val_ratio (Int.mul_ne_zero hp hq)]
  have a := cast_ne hp
  have b := cast_ne hq
  unfold val
  rw [Rat.intCast_sub, Rat.intCast_mul, Rat.intCast_mul, Rat.intCast_mul]
  grind
theorem val_turn {p : Num} (hp : p.2 ≠ 0) : val (turnOf p) = - val p := by
  unfold turnOf
  rw [val_diff (by decide) hp]
  unfold val
  dsimp only
  grind
theorem val_sum {p q : Num} (hp : p.2 ≠ 0) (hq : q.2 ≠ 0) : val (sumL p q) = val p + val q := by
  have a := cast_ne hp
  have b := cast_ne hq
  unfold val sumL
  dsimp only
  rw [Rat.intCast_add, Rat.intCast_mul, Rat.intCast_mul, Rat.intCast_mul]
  grind
theorem val_times {p q : Num} (hp : p.2 ≠ 0) (hq : q.2 ≠ 0) : val (timesL p q) = val p * val q := by
  have a := cast_ne hp
  have b := cast_ne hq
  unfold val timesL
  dsimp only
  rw [Rat.intCast_mul, Rat.intCast_mul]
  grind
theorem val_turnL (p : Num) : val (turnL p) = - val p := by
  unfold val turnL
  dsimp only
  rw [Rat.intCast_sub]
  grind
theorem val_zero {p : Num} (hp : p.2 ≠ 0) : val p = 0 ↔ p.1 = 0 := by
  have a := cast_ne hp
  unfold val
  constructor
  · intro h
    have : (p.1 : Rat) = 0 := by grind
    exact_mod_cast this
  · intro h
    rw [h]
    grind
theorem val_one {p : Num} (hp : p.2 ≠ 0) : val p = 1 ↔ p.1 = p.2 := by
  have a := cast_ne hp
  unfold val
  constructor
  · intro h
    have : (p.1 : Rat) = (p.2 : Rat) := by grind
    exact_mod_cast this
  · intro h
    rw [h]
    grind
/-! sums -/
def sumR (n : Nat) (f : Nat → Rat) : Rat := match n with
  | 0 => 0
  | n + 1 => sumR n f + f n
theorem sumR_congr {f g : Nat → Rat} : ∀ {n : Nat}, (∀ i, i < n → f i = g i) → sumR n f = sumR n g
  | 0, _ => rfl
  | n + 1, h => by
    show sumR n f + f n = sumR n g + g n
    rw [sumR_congr (n := n) fun i hi => h i (by omega), h n (by omega)]
theorem sumR_zero : ∀ {n : Nat} {f : Nat → Rat}, (∀ i, i < n → f i = 0) → sumR n f = 0
  | 0, _, _ => rfl
  | n + 1, f, h => by
    show sumR n f + f n = 0
    rw [sumR_zero fun i hi => h i (by omega), h n (by omega)]
    grind
theorem sumR_lin (a b : Rat) (f g : Nat → Rat) : ∀ n, sumR n (fun i => a * f i + b * g i) = a * sumR n f + b * sumR n g
  | 0 => by
    show (0 : Rat) = a * 0 + b * 0
    grind
  | n + 1 => by
    show sumR n _ + (a * f n + b * g n) = a * (sumR n f + f n) + b * (sumR n g + g n)
    rw [sumR_lin a b f g n]
    grind
theorem sumR_mul (a : Rat) (f : Nat → Rat) (n : Nat) : sumR n (fun i => a * f i) = a * sumR n f := by
  have h := sumR_lin a 0 f (fun _ => 0) n
  have e : sumR n (fun i => a * f i) = sumR n (fun i => a * f i + 0 * 0) := sumR_congr fun i _ => by grind
  rw [e, h]
  grind
theorem sumR_single {n i : Nat} {f : Nat → Rat} (hi : i < n) (h : ∀ j, j < n → j ≠ i → f j = 0) : sumR n f = f i := by
  induction n with
  | zero => omega
  | succ n ih =>
    show sumR n f + f n = f i
    by_cases e : i = n
    · subst e
      rw [sumR_zero fun j hj => h j (by omega) (by omega)]
      grind
    · rw [ih (by omega) fun j hj ne => h j (by omega) ne, h n (by omega) (by omega)]
      grind
theorem sumR_split (n m : Nat) (f : Nat → Rat) : sumR (n + m) f = sumR n f + sumR m (fun i => f (n + i)) := by
  induction m with
  | zero =>
    show sumR n f = sumR n f + 0
    grind
  | succ m ih =>
    show sumR (n + m) f + f (n + m) = sumR n f + (sumR m (fun i => f (n + i)) + f (n + m))
    rw [ih]
    grind
/-! the elimination -/
abbrev rat (r : List Int) (j : Nat) : Rat := ((r.getD j 0 : Int) : Rat)
def SolR (many : Nat) (x : Nat → Rat) (r : List Int) : Prop := sumR many (fun j => rat r j * x j) = rat r many
def LinR (many R : Nat) (A : Nat → Nat → Rat) (r : List Int) : Prop := ∀ j, j ≤ many → rat r j = sumR R (fun k => rat r (many + 1 + k) * A k j)
theorem clear_rat {one lead : List Int} {c : Nat} (h : lead.length = one.length) (hc : lead.getD c 0 ≠ 0) : ∃ g o u : Rat, g ≠ 0 ∧ o ≠ 0 ∧ ∀ k, rat (clearRow one lead c) k * g = o * rat one k - u * rat lead k := by
  obtain ⟨g, o, u, hg, ho, _, e⟩ := clear_get one lead c h hc
  refine ⟨g, o, u, cast_ne hg, cast_ne ho, fun k => ?_⟩
  have := e k
  have h2 : (((clearRow one lead c).getD k 0 * g : Int) : Rat) = ((o * one.getD k 0 - u * lead.getD k 0 : Int) : Rat) := by rw [this]
  rw [Rat.intCast_mul, Rat.intCast_sub, Rat.intCast_mul, Rat.intCast_mul] at h2
  exact h2
theorem sol_back {many : Nat} {x : Nat → Rat} {one lead : List Int} {c : Nat} (h : lead.length = one.length) (hc : lead.getD c 0 ≠ 0) (h1 : SolR many x lead) (h2 : SolR many x (clearRow one lead c)) : SolR many x one := by
  obtain ⟨g, o, u, hg, ho, e⟩ := clear_rat h hc
  unfold SolR at *
  have a : sumR many (fun j => rat (clearRow one lead c) j * x j) * g = o * sumR many (fun j => rat one j * x j) + (-u) * sumR many (fun j => rat lead j * x j) := by
    rw [← sumR_lin]
    have : sumR many (fun j => rat (clearRow one lead c) j * x j) * g = g * sumR many (fun j => rat (clearRow one lead c) j * x j) := by grind
    rw [this, ← sumR_mul]
    refine sumR_congr fun j _ => ?_
    have := e j
    grind
  rw [h1, h2] at a
  have b := e many
  have : o * (sumR many (fun j => rat one j * x j) - rat one many) = 0 := by grind
  grind
theorem lin_clear {many R : Nat} {A : Nat → Nat → Rat} {one lead : List Int} {c : Nat} (h : lead.length = one.length) (hc : lead.getD c 0 ≠ 0) (h1 : LinR many R A lead) (h2 : LinR many R A one) : LinR many R A (clearRow one lead c) := by
  obtain ⟨g, o, u, hg, ho, e⟩ := clear_rat h hc
  intro j hj
  have a : g * sumR R (fun k => rat (clearRow one lead c) (many + 1 + k) * A k j) = o * sumR R (fun k => rat one (many + 1 + k) * A k j) + (-u) * sumR R (fun k => rat lead (many + 1 + k) * A k j) := by
    rw [← sumR_lin, ← sumR_mul]
    refine sumR_congr fun k _ => ?_
    have := e (many + 1 + k)
    grind
  rw [← h1 j hj, ← h2 j hj] at a
  have b := e j
  have : g * (rat (clearRow one lead c) j - sumR R (fun k => rat (clearRow one lead c) (many + 1 + k) * A k j)) = 0 := by grind
  grind
theorem low_rat (r : List Int) : ∃ g : Rat, g ≠ 0 ∧ ∀ k, rat (lowRow r) k * g = rat r k := by
  obtain ⟨g, hg, e⟩ := low_get r 0
  refine ⟨g, cast_ne (by omega), fun k => ?_⟩
  have := e k
  have h2 : (((lowRow r).getD k 0 * g : Int) : Rat) = ((r.getD k 0 : Int) : Rat) := by rw [this]
  rw [Rat.intCast_mul] at h2
  exact h2
theorem lin_low {many R : Nat} {A : Nat → Nat → Rat} {r : List Int} (h : LinR many R A r) : LinR many R A (lowRow r) := by
  obtain ⟨g, hg, e⟩ := low_rat r
  intro j hj
  have a : g * sumR R (fun k => rat (lowRow r) (many + 1 + k) * A k j) = sumR R (fun k => rat r (many + 1 + k) * A k j) := by
    rw [← sumR_mul]
    refine sumR_congr fun k _ => ?_
    have := e (many + 1 + k)
    grind
  rw [← h j hj] at a
  have b := e j
  have : g * (rat (lowRow r) j - sumR R (fun k => rat (lowRow r) (many + 1 + k) * A k j)) = 0 := by grind
  grind
theorem sol_low {many : Nat} {x : Nat → Rat} {r : List Int} (h : SolR many x (lowRow r)) : SolR many x r := by
  obtain ⟨g, hg, e⟩ := low_rat r
  unfold SolR at *
  have a : sumR many (fun j => rat r j * x j) = g * sumR many (fun j => rat (lowRow r) j * x j) := by
    rw [← sumR_mul]
    refine sumR_congr fun j _ => ?_
    have := e j
    grind
  rw [a, h, ← e many]
  grind
/-- every row of the state -/
def AllR (P : List Int → Prop) (st : Leads × List (List Int)) : Prop := (∀ p ∈ st.1, P p.2) ∧ ∀ r ∈ st.2, P r
theorem step_cases {L R c k : Nat} {st : Leads × List (List Int)} (h : LInv L R c k st) :
    stepCol st k = st ∨ ∃ lead, lead ∈ st.2 ∧ lead.getD k 0 ≠ 0 ∧ lead.length = L ∧ stepCol st k = (st.1.map (fun p => (p.1, clearRow p.2 lead k)) ++ [(k, lead)], (st.2.take (firstAt st.2 k) ++ st.2.drop (firstAt st.2 k + 1)).map fun r => clearRow r lead k) ∧
      ∀ r ∈ st.2, r = lead ∨ r ∈ st.2.take (firstAt st.2 k) ++ st.2.drop (firstAt st.2 k + 1) := by
  unfold stepCol
  dsimp only
  by_cases e : firstAt st.2 k = st.2.length
  · rw [if_pos e]
    exact .inl rfl
  · rw [if_neg e]
    obtain ⟨hl, hp⟩ := first_ne e
    have hm : st.2.getD (firstAt st.2 k) [] ∈ st.2 := getD_mem hl
    refine .inr ⟨_, hm, hp, h.l2 _ hm, rfl, fun r hr => ?_⟩
    have hk : st.2[firstAt st.2 k]? = some (st.2.getD (firstAt st.2 k) []) := by rw [List.getD_eq_getElem?_getD, List.getElem?_eq_getElem hl]; rfl
    rw [split_at hk] at hr
    rcases List.mem_append.mp hr with hr | hr
    · exact .inr (List.mem_append.mpr (.inl hr))
    · rcases List.mem_cons.mp hr with hr | hr
      · exact .inl hr
      · exact .inr (List.mem_append.mpr (.inr hr))
theorem sol_step {L R c k many : Nat} {x : Nat → Rat} {st : Leads × List (List Int)} (h : LInv L R c k st) (hs : AllR (SolR many x) (stepCol st k)) : AllR (SolR many x) st := by
  rcases step_cases h with e | ⟨lead, hm, hne, hL, e, hsplit⟩
  · rw [e] at hs
    exact hs
  · rw [e] at hs
    obtain ⟨h1, h2⟩ := hs
    have hlead : SolR many x lead := h1 (k, lead) (List.mem_append.mpr (.inr (List.mem_singleton.mpr rfl)))
    refine ⟨fun p hp => ?_, fun r hr => ?_⟩
    · exact sol_back (by rw [hL, h.l1 p hp]) hne hlead (h1 (p.1, clearRow p.2 lead k) (List.mem_append.mpr (.inl (List.mem_map.mpr ⟨p, hp, rfl⟩))))
    · rcases hsplit r hr with rfl | hr'
      · exact hlead
      · exact sol_back (by rw [hL, h.l2 r hr]) hne hlead (h2 (clearRow r lead k) (List.mem_map.mpr ⟨r, hr', rfl⟩))
theorem lin_step {L R c k many R' : Nat} {A : Nat → Nat → Rat} {st : Leads × List (List Int)} (h : LInv L R c k st) (hs : AllR (LinR many R' A) st) : AllR (LinR many R' A) (stepCol st k) := by
  rcases step_cases h with e | ⟨lead, hm, hne, hL, e, _⟩
  · rw [e]
    exact hs
  · rw [e]
    obtain ⟨h1, h2⟩ := hs
    refine ⟨fun p hp => ?_, fun r hr => ?_⟩
    · rcases List.mem_append.mp hp with hp | hp
      · obtain ⟨q, hq, rfl⟩ := List.mem_map.mp hp
        exact lin_clear (by rw [hL, h.l1 q hq]) hne (h2 lead hm) (h1 q hq)
      · rw [List.mem_singleton.mp hp]
        exact h2 lead hm
    · obtain ⟨q, hq, rfl⟩ := List.mem_map.mp hr
      have hq := mem_cut hq
      exact lin_clear (by rw [hL, h.l2 q hq]) hne (h2 lead hm) (h2 q hq)
theorem sol_all {L c many : Nat} {x : Nat → Rat} {js : List (List Int)} (hc : 1 ≤ c) (h1 : ∀ r ∈ js, r.length = L) (h2 : ∀ r ∈ js, Bd (c - 1) r) : ∀ k, AllR (SolR many x) (ledTo js k) → ∀ r ∈ js, SolR many x r
  | 0, h => h.2
  | k + 1, h => by
    rw [ledTo_succ] at h
    exact sol_all hc h1 h2 k (sol_step (led_inv hc h1 h2 k) h)
theorem lin_all {L c many R' : Nat} {A : Nat → Nat → Rat} {js : List (List Int)} (hc : 1 ≤ c) (h1 : ∀ r ∈ js, r.length = L) (h2 : ∀ r ∈ js, Bd (c - 1) r) (hl : ∀ r ∈ js, LinR many R' A r) : ∀ k, AllR (LinR many R' A) (ledTo js k)
  | 0 => ⟨(fun p h => by cases h), hl⟩
  | k + 1 => by
    rw [ledTo_succ]
    exact lin_step (led_inv hc h1 h2 k) (lin_all hc h1 h2 hl k)
/-! the joint rows -/
theorem top_rat {q : Num} {b : Int} (hq : 0 < q.2) (hd : q.2 ∣ b) : ((q.1 * (b / q.2) : Int) : Rat) = (b : Rat) * val q := by
  obtain ⟨c, rfl⟩ := hd
  have a := cast_ne (show q.2 ≠ 0 by omega)
  rw [Int.mul_ediv_cancel_left _ (by omega)]
  unfold val
  rw [Rat.intCast_mul, Rat.intCast_mul]
  grind
theorem raw_low {row : List Num} {due : Num} {at_ R n j : Nat} (h : ∀ q ∈ row, Good n q) (hd : Good n due) (hj : j < row.length) : rat (jointRaw row due at_ R) j = (bottomOf row due : Rat) * val (row.getD j (0, 1)) := by
  obtain ⟨_, _, b3, _⟩ := bottom_ok h hd
  have hm : row.getD j (0, 1) ∈ row := getD_mem hj
  have e : (jointRaw row due at_ R).getD j 0 = (row.getD j (0, 1)).1 * (bottomOf row due / (row.getD j (0, 1)).2) := by
    unfold jointRaw
    rw [List.append_assoc, List.getD_eq_getElem?_getD, List.getElem?_append_left (by simpa using hj), List.getElem?_map, List.getD_eq_getElem?_getD, List.getElem?_eq_getElem hj]
    rfl
  unfold rat
  rw [e]
  exact top_rat (h _ hm).2 (b3 _ hm)
theorem raw_due {row : List Num} {due : Num} {at_ R n : Nat} (h : ∀ q ∈ row, Good n q) (hd : Good n due) : rat (jointRaw row due at_ R) row.length = (bottomOf row due : Rat) * val due := by
  obtain ⟨_, b2, _, _⟩ := bottom_ok h hd
  have e : (jointRaw row due at_ R).getD row.length 0 = due.1 * (bottomOf row due / due.2) := by
    unfold jointRaw
    rw [List.append_assoc, List.getD_eq_getElem?_getD, List.getElem?_append_right (by simp), List.length_map, Nat.sub_self]
    rfl
  unfold rat
  rw [e]
  exact top_rat hd.2 b2
theorem raw_unit {row : List Num} {due : Num} {at_ R k : Nat} (hk : k < R) : rat (jointRaw row due at_ R) (row.length + 1 + k) = if k = at_ then (bottomOf row due : Rat) else 0 := by
  have e : (jointRaw row due at_ R).getD (row.length + 1 + k) 0 = if k = at_ then bottomOf row due else 0 := by
    unfold jointRaw
    rw [List.getD_eq_getElem?_getD, List.getElem?_append_right (by simp), List.getElem?_map, List.length_append, List.length_map, List.length_singleton, Nat.add_sub_cancel_left, List.getElem?_range hk]
    rfl
  unfold rat
  rw [e]
  split <;> rfl
/-- the rows with the due behind -/
def matA (rows : List (List Num)) (due : List Num) (many k j : Nat) : Rat := if j < many then val ((rows.getD k []).getD j (0, 1)) else val (due.getD k (0, 1))
theorem raw_lin {rows : List (List Num)} {due : List Num} {many n k : Nat} (ok : SolveOk rows due many n) (hk : k < rows.length) : LinR many rows.length (matA rows due many) (jointRaw (rows.getD k []) (due.getD k (0, 1)) k rows.length) := by
  obtain ⟨e1, e2⟩ := ok.r _ (getD_mem (a := []) hk)
  have e3 := ok.d _ (getD_mem (a := (0, 1)) (by rw [ok.dl]; exact hk))
  intro j hj
  have hs : sumR rows.length (fun k' => rat (jointRaw (rows.getD k []) (due.getD k (0, 1)) k rows.length) (many + 1 + k') * matA rows due many k' j) = (bottomOf (rows.getD k []) (due.getD k (0, 1)) : Rat) * matA rows due many k j := by
    rw [sumR_single hk fun k' hk' ne => ?_]
    · rw [← e1, raw_unit hk, if_pos rfl]
    · rw [← e1, raw_unit hk', if_neg ne]
      grind
  rw [hs]
  by_cases hjm : j < many
  · rw [raw_low e2 e3 (by rw [e1]; exact hjm)]
    unfold matA
    rw [if_pos hjm]
  · have : j = many := by omega
    subst this
    have := raw_due (at_ := k) (R := rows.length) e2 e3
    rw [e1] at this
    rw [this]
    unfold matA
    rw [if_neg (by omega)]
theorem joint_mem {rows : List (List Num)} {due : List Num} {r : List Int} (h : r ∈ jointRows rows due) : ∃ k, k < rows.length ∧ r = jointRow (rows.getD k []) (due.getD k (0, 1)) k rows.length := by
  unfold jointRows at h
  obtain ⟨k, hk, rfl⟩ := List.mem_map.mp h
  exact ⟨k, List.mem_range.mp hk, rfl⟩
theorem joint_sol {rows : List (List Num)} {due : List Num} {many n k : Nat} {x : Nat → Rat} (ok : SolveOk rows due many n) (hk : k < rows.length) (h : SolR many x (jointRow (rows.getD k []) (due.getD k (0, 1)) k rows.length)) :
    sumR many (fun j => val ((rows.getD k []).getD j (0, 1)) * x j) = val (due.getD k (0, 1)) := by
  obtain ⟨e1, e2⟩ := ok.r _ (getD_mem (a := []) hk)
  have e3 := ok.d _ (getD_mem (a := (0, 1)) (by rw [ok.dl]; exact hk))
  have h2 := sol_low h
  unfold SolR at h2
  obtain ⟨b0, _⟩ := bottom_ok e2 e3
  have hb := cast_ne (show bottomOf (rows.getD k []) (due.getD k (0, 1)) ≠ 0 by omega)
  have a : sumR many (fun j => rat (jointRaw (rows.getD k []) (due.getD k (0, 1)) k rows.length) j * x j) = (bottomOf (rows.getD k []) (due.getD k (0, 1)) : Rat) * sumR many (fun j => val ((rows.getD k []).getD j (0, 1)) * x j) := by
    rw [← sumR_mul]
    refine sumR_congr fun j hj => ?_
    rw [raw_low e2 e3 (by rw [e1]; exact hj)]
    grind
  have b := raw_due (at_ := k) (R := rows.length) e2 e3
  rw [e1] at b
  rw [a, b] at h2
  have : (bottomOf (rows.getD k []) (due.getD k (0, 1)) : Rat) * (sumR many (fun j => val ((rows.getD k []).getD j (0, 1)) * x j) - val (due.getD k (0, 1))) = 0 := by grind
  grind
/-! the found numbers -/
theorem fold_keep (many : Nat) (i : Nat) : ∀ (l : Leads) (f : List Num), (∀ p ∈ l, p.1 ≠ i) → (l.foldl (fun f p => f.set p.1 (ratioOf (p.2.getD many 0) (p.2.getD p.1 0))) f).getD i (0, 1) = f.getD i (0, 1)
  | [], f, _ => rfl
  | p :: l, f, h => by
    rw [List.foldl_cons, fold_keep many i l _ fun q hq => h q (List.mem_cons_of_mem _ hq), List.getD_eq_getElem?_getD, List.getElem?_set_ne (h p List.mem_cons_self), ← List.getD_eq_getElem?_getD]
theorem fold_at (many : Nat) : ∀ (l : Leads) (f : List Num), (l.map (·.1)).Pairwise (· < ·) → (∀ p ∈ l, p.1 < f.length) → ∀ p ∈ l, (l.foldl (fun f p => f.set p.1 (ratioOf (p.2.getD many 0) (p.2.getD p.1 0))) f).getD p.1 (0, 1) = ratioOf (p.2.getD many 0) (p.2.getD p.1 0)
  | q :: l, f, hp, hl, p, hm => by
    rw [List.map_cons] at hp
    obtain ⟨h1, h2⟩ := List.pairwise_cons.mp hp
    rw [List.foldl_cons]
    rcases List.mem_cons.mp hm with rfl | hm
    · rw [fold_keep many p.1 l _ fun x hx e => by
        have := h1 x.1 (List.mem_map.mpr ⟨x, hx, rfl⟩)
        omega]
      rw [List.getD_eq_getElem?_getD, List.getElem?_set_self (hl p List.mem_cons_self)]
      rfl
    · exact fold_at many l _ h2 (fun x hx => by rw [List.length_set]; exact hl x (List.mem_cons_of_mem _ hx)) p hm
/-- SOLVED: the numbers found balance every row -/
theorem solved_ok {rows : List (List Num)} {due : List Num} {many n : Nat} (ok : SolveOk rows due many n) (h : (solveRows rows due many).1 = false) (k : Nat) (hk : k < rows.length) :
    sumR many (fun j => val ((rows.getD k []).getD j (0, 1)) * val ((solveRows rows due many).2.getD j (0, 1))) = val (due.getD k (0, 1)) := by
  have lok := ok.led
  have inv : LInv (many + 1 + rows.length) (jointRows rows due).length (n * (many + 2) + 1) many (ledRows (jointRows rows due) many) := led_inv lok.c1 lok.l lok.b many
  have back := sol_all (many := many) lok.c1 lok.l lok.b (x := fun j => val ((solveRows rows due many).2.getD j (0, 1))) many
  refine joint_sol ok hk (back ?_ _ (by unfold jointRows; exact List.mem_map.mpr ⟨k, List.mem_range.mpr hk, rfl⟩))
  have hst : ledTo (jointRows rows due) many = ledRows (jointRows rows due) many := rfl
  rw [hst]
  have hsol : solveRows rows due many = match (ledRows (jointRows rows due) many).2.find? fun r => decide (r.getD many 0 ≠ 0) with
      | some j => (true, (j.drop (many + 1)).map fun n => ratioOf n (j.getD many 0))
      | none => (false, (ledRows (jointRows rows due) many).1.foldl (fun f p => f.set p.1 (ratioOf (p.2.getD many 0) (p.2.getD p.1 0))) (List.replicate many (0, 1))) := rfl
  revert inv hsol
  generalize ledRows (jointRows rows due) many = st
  intro inv hsol
  cases hf : st.2.find? fun r => decide (r.getD many 0 ≠ 0) with
  | some j =>
    rw [hf] at hsol
    rw [hsol] at h
    cases h
  | none =>
    rw [hf] at hsol
    rw [hsol]
    dsimp only
    have hz : ∀ r ∈ st.2, r.getD many 0 = 0 := fun r hr => by
      have := List.find?_eq_none.mp hf r hr
      simpa using this
    refine ⟨fun p hp => ?_, fun r hr => ?_⟩
    · unfold SolR
      have hpb := inv.kb p hp
      have hat := fold_at many st.1 (List.replicate many (0, 1)) inv.ks (fun q hq => by rw [List.length_replicate]; exact inv.kb q hq) p hp
      rw [sumR_single hpb fun j hj ne => ?_]
      · dsimp only
        rw [hat, val_ratio (inv.pv p hp)]
        have := cast_ne (inv.pv p hp)
        unfold rat
        grind
      · by_cases hin : ∃ q ∈ st.1, q.1 = j
        · obtain ⟨q, hq, rfl⟩ := hin
          unfold rat
          rw [inv.lz p hp q hq ne]
          grind
        · dsimp only
          rw [fold_keep many j st.1 _ fun q hq e => hin ⟨q, hq, e⟩]
          have : val ((List.replicate many ((0 : Int), (1 : Int))).getD j (0, 1)) = 0 := by
            rw [List.getD_eq_getElem?_getD, List.getElem?_replicate]
            split <;> (unfold val; dsimp only [Option.getD]; grind)
          rw [this]
          grind
    · unfold SolR
      rw [sumR_zero fun j hj => ?_]
      · unfold rat
        rw [hz r hr]
        rfl
      · unfold rat
        rw [inv.rz r hr j hj]
        grind
/-- PAPER: the numbers told kill every column, and the due counts one -/
theorem paper_ok {rows : List (List Num)} {due : List Num} {many n : Nat} (ok : SolveOk rows due many n) (h : (solveRows rows due many).1 = true) :
    (∀ j, j < many → sumR rows.length (fun k => val ((solveRows rows due many).2.getD k (0, 1)) * val ((rows.getD k []).getD j (0, 1))) = 0) ∧ sumR rows.length (fun k => val ((solveRows rows due many).2.getD k (0, 1)) * val (due.getD k (0, 1))) = 1 := by
  have lok := ok.led
  have inv : LInv (many + 1 + rows.length) (jointRows rows due).length (n * (many + 2) + 1) many (ledRows (jointRows rows due) many) := led_inv lok.c1 lok.l lok.b many
  have lin : AllR (LinR many rows.length (matA rows due many)) (ledRows (jointRows rows due) many) := lin_all lok.c1 lok.l lok.b (fun r hr => by
    obtain ⟨k, hk, rfl⟩ := joint_mem hr
    exact lin_low (raw_lin ok hk)) many
  have hsol : solveRows rows due many = match (ledRows (jointRows rows due) many).2.find? fun r => decide (r.getD many 0 ≠ 0) with
      | some j => (true, (j.drop (many + 1)).map fun n => ratioOf n (j.getD many 0))
      | none => (false, (ledRows (jointRows rows due) many).1.foldl (fun f p => f.set p.1 (ratioOf (p.2.getD many 0) (p.2.getD p.1 0))) (List.replicate many (0, 1))) := rfl
  revert inv hsol lin
  generalize ledRows (jointRows rows due) many = st
  intro inv lin hsol
  cases hf : st.2.find? fun r => decide (r.getD many 0 ≠ 0) with
  | none =>
    rw [hf] at hsol
    rw [hsol] at h
    cases h
  | some j =>
    rw [hf] at hsol
    rw [hsol]
    dsimp only
    have hj := List.mem_of_find?_eq_some hf
    have hne : j.getD many 0 ≠ 0 := by
      have := List.find?_some hf
      exact of_decide_eq_true this
    have hL := inv.l2 j hj
    have hl := lin.2 j hj
    have hc := cast_ne hne
    have hy : ∀ k, k < rows.length → val (((j.drop (many + 1)).map fun n => ratioOf n (j.getD many 0)).getD k (0, 1)) = rat j (many + 1 + k) / rat j many := fun k hk => by
      have hlen : many + 1 + k < j.length := by omega
      rw [List.getD_eq_getElem?_getD, List.getElem?_map, List.getElem?_drop, List.getElem?_eq_getElem hlen]
      show val (ratioOf _ _) = _
      rw [val_ratio hne]
      have e : j.getD (many + 1 + k) 0 = j[many + 1 + k] := by rw [List.getD_eq_getElem?_getD, List.getElem?_eq_getElem hlen]; rfl
      unfold rat
      rw [e]
    have key : ∀ c, c ≤ many → sumR rows.length (fun k => val (((j.drop (many + 1)).map fun n => ratioOf n (j.getD many 0)).getD k (0, 1)) * matA rows due many k c) = rat j c / rat j many := fun c hc' => by
      have e : sumR rows.length (fun k => val (((j.drop (many + 1)).map fun n => ratioOf n (j.getD many 0)).getD k (0, 1)) * matA rows due many k c) = (1 / rat j many) * sumR rows.length (fun k => rat j (many + 1 + k) * matA rows due many k c) := by
        rw [← sumR_mul]
        refine sumR_congr fun k hk => ?_
        rw [hy k hk]
        grind
      rw [e, ← hl c hc']
      grind
    constructor
    · intro c hcm
      have h1 := key c (by omega)
      have h2 : sumR rows.length (fun k => val (((j.drop (many + 1)).map fun n => ratioOf n (j.getD many 0)).getD k (0, 1)) * val ((rows.getD k []).getD c (0, 1))) = sumR rows.length (fun k => val (((j.drop (many + 1)).map fun n => ratioOf n (j.getD many 0)).getD k (0, 1)) * matA rows due many k c) := sumR_congr fun k hk => by
        unfold matA
        rw [if_pos hcm]
      rw [h2, h1]
      have : rat j c = 0 := by
        unfold rat
        rw [inv.rz j hj c hcm]
        rfl
      rw [this]
      grind
    · have h1 := key many (Nat.le_refl _)
      have h2 : sumR rows.length (fun k => val (((j.drop (many + 1)).map fun n => ratioOf n (j.getD many 0)).getD k (0, 1)) * val (due.getD k (0, 1))) = sumR rows.length (fun k => val (((j.drop (many + 1)).map fun n => ratioOf n (j.getD many 0)).getD k (0, 1)) * matA rows due many k many) := sumR_congr fun k hk => by
        unfold matA
        rw [if_neg (by omega)]
      rw [h2, h1]
      have : rat j many ≠ 0 := hc
      grind
end Ty
set_option Elab.async false
set_option linter.all false
set_option maxRecDepth 100000
set_option maxHeartbeats 4000000
/-! _law_arm, _law_dot, _law_longer, _law_keeps, _law_is_motion. -/
namespace Ty
open PySem PySem.Spec PyProof.Rows L2
def coordP (p : Pin) (a : Nat) : Num := if a = 0 then p.x else p.y
def coordW (w : Num × Num) (a : Nat) : Num := if a = 0 then w.1 else w.2
def armL (ps : List Pin) (b : LBar) (a : Nat) : Num := sumL (coordP (ps.getD b.2.2 nilPin) a) (turnL (coordP (ps.getD b.2.1 nilPin) a))
theorem coord_at {p q : Num} {a : Nat} (h : a < 2) : [num p, num q][a]? = some (num (coordW (p, q) a)) := by
  match a, h with
  | 0, _ => rfl
  | 1, _ => rfl
theorem coordP_at {p : Pin} {a : Nat} (h : a < 2) : [num p.x, num p.y][a]? = some (num (coordP p a)) := by
  match a, h with
  | 0, _ => rfl
  | 1, _ => rfl
def PinsGd (ps : List Pin) : Prop := ∀ p ∈ ps, Good 64 p.x ∧ Good 64 p.y ∧ ∀ w ∈ p.ways, Good 64 w.1 ∧ Good 64 w.2
theorem PinsGd.c {ps : List Pin} (h : PinsGd ps) {i : Nat} (hi : i < ps.length) (a : Nat) : Good 64 (coordP (ps.getD i nilPin) a) := by
  obtain ⟨g1, g2, _⟩ := h _ (getD_mem (a := nilPin) hi)
  unfold coordP
  split
  · exact g1
  · exact g2
theorem good_sum {n m : Nat} {p q : Num} (hp : Good n p) (hq : Good m q) : Good (n + m + 1) (sumL p q) := ⟨sz_sum hp.1 hq.1, Int.mul_pos hp.2 hq.2⟩
theorem good_times {n m : Nat} {p q : Num} (hp : Good n p) (hq : Good m q) : Good (n + m) (timesL p q) := ⟨sz_times hp.1 hq.1, Int.mul_pos hp.2 hq.2⟩
theorem good_turnL {n : Nat} {p : Num} (hp : Good n p) : Good n (turnL p) := ⟨sz_turnL hp.1, hp.2⟩
theorem good_ne {n : Nat} {p : Num} (hp : Good n p) : p.2 ≠ 0 := by
  have := hp.2
  omega
theorem arm_gd {ps : List Pin} {b : LBar} (h : PinsGd ps) (h1 : b.2.1 < ps.length) (h2 : b.2.2 < ps.length) (a : Nat) : Good 129 (armL ps b a) := good_sum (h.c h2 a) (good_turnL (h.c h1 a))
theorem pin_at {ps : List Pin} {i : Nat} {z : Int} (h : i < ps.length) (e : z = (i : Int)) : atI (ps.map pinT) z = some (pinT (ps.getD i nilPin)) := by
  refine at_ofD e ?_
  rw [List.getElem?_map, List.getD_eq_getElem?_getD, List.getElem?_eq_getElem h]
  rfl
section
variable {S : Sys} {x y z : Dat}
theorem rv_seqT (h : RvD S (rIxT S.K) x y z) : RvD S (rIx S.K) x y z := fun H1 H u v e a b Q q => .inr (.inl (h H1 H u v e a b Q q))
theorem rv_seqL (h : RvD S (rIxL S.K) x y z) : RvD S (rIx S.K) x y z := fun H1 H u v e a b Q q => .inl (h H1 H u v e a b Q q)
end
/-! lists of names -/
theorem eqv_strs : ∀ l : List Str, PyData.eqvAll (l.map .str) (l.map .str) = true
  | [] => by simp [PyData.eqvAll]
  | a :: l => by simp [PyData.eqvAll, PyData.eqv, eqv_strs l]
theorem rv_neNames {S : Sys} {l : List Str} (h : ∀ x ∈ l, PyData.strOk x = true) : RvD S (rNeD S.K) (.lst (l.map .str)) (.lst (l.map .str)) (.bl false) := by
  have e1 : toPy (.lst (l.map .str)) = some (.list (l.map .str)) := by
    simp only [toPy]
    rw [toPys_map Dat.str PyData.str (fun a => by simp [toPy]) l]
    rfl
  have sh : SeqAt.shaped (.list (l.map .str)) = true := shaped_list fun d hd => by
    obtain ⟨x, hx, rfl⟩ := List.mem_map.mp hd
    exact ⟨by simp [PyData.canLay0, h x hx], by simp [PyData.depth]⟩
  have := rv_neD (S := S) e1 e1 sh sh
  have e2 : PyData.eqv (.list (l.map .str)) (.list (l.map .str)) = true := by
    simp only [PyData.eqv]
    exact eqv_strs l
  rwa [e2] at this
/-- the motion told -/
structure MotOk (ps : List Pin) (mk : List (Key × Dat)) (mo : Nat → Num × Num) (M : Nat) : Prop where
  v : ∀ i, i < ps.length → valD mk (.inr (nameAt ps i)) = some (way (mo i))
  g : ∀ i, i < ps.length → Good M (mo i).1 ∧ Good M (mo i).2
  m : M ≤ 3000000
def moreL (mo : Nat → Num × Num) (b : LBar) (a : Nat) : Num := sumL (coordW (mo b.2.2) a) (turnL (coordW (mo b.2.1) a))
def longL (ps : List Pin) (b : LBar) (mo : Nat → Num × Num) : Num := dotL (armL ps b 0, armL ps b 1) (moreL mo b 0, moreL mo b 1)
section
variable {Pr : Program} {w : World} {K : PySem.W.Frag} {mg : Str → Option Value} {base : Heap}
def R_law_arm (ds : List Dat) (d : Dat) : Prop := ∃ (ps : List Pin) (b : LBar) (a : Nat), ds = [pinsT ps, barT b, .int (a : Int)] ∧ a < 2 ∧ b.2.1 < ps.length ∧ b.2.2 < ps.length ∧ PinsGd ps ∧ d = num (armL ps b a)
theorem ok_law_arm (T : Txt K mg) (B : Bas Pr base) : FnOk Pr w K mg base CX0 41 (He.ga K "_law_arm") (fdAt K (He.ga K "_law_arm")) ["_law_pins_here", "_law_bar", "_law_axis"] (spF (sysOf K) R_law_arm) := by
  refine pure_ok (S := sysOf K) (k := 40) T.F_law_arm sc_law_arm (fun ds d h => ?_) (fun cdv A outer s H E hr => ?_)
  · obtain ⟨ps, b, a, rfl, _⟩ := h
    rfl
  · refine ⟨_, (pss_one (ps_ret (pe_call (ok_law_sum T B) (hr.mono (by decide)) rfl T.g_law_sum T.F_law_sum.kp T.b_law_sum .nil pass0 (pa_cons (pe_ix ix_tup (pe_ix ix_tup (pe_ix ix_list (pv 0) (pe_ix ix_tup (pv 1) pe_int (fun _ _ => rfl)) (fun _ _ => rfl)) pe_int (fun _ _ => rfl)) (pv 2) (fun _ _ => rfl)) (pa_cons (pe_call (ok_law_turned T B) (hr.mono (by decide)) rfl T.g_law_turned T.F_law_turned.kp T.b_law_turned .nil pass0 (pa_cons (pe_ix ix_tup (pe_ix ix_tup (pe_ix ix_list (pv 0) (pe_ix ix_tup (pv 1) pe_int (fun _ _ => rfl)) (fun _ _ => rfl)) pe_int (fun _ _ => rfl)) (pv 2) (fun _ _ => rfl)) pa_nil)) pa_nil))))), fun ds d h => ?_⟩
    obtain ⟨ps, b, a, rfl, ha, h1, h2, hg, rfl⟩ := h
    have cx : ∀ {j : Int} {i : Nat}, [Dat.str b.1, .int (b.2.1 : Int), .int (b.2.2 : Int)][j.toNat]? = some (.int (i : Int)) → 0 ≤ j → i < ps.length → EvD (sysOf K) (tOp (rIxT K) (tOp (rIxT K) (tOp (rIxL K) (tVar 0) (tOp (rIxT K) (tVar 1) (tC (.int j)))) (tC (.int 1))) (tVar 2)) (start0 ["_law_pins_here", "_law_bar", "_law_axis"] [pinsT ps, barT b, .int (a : Int)]) (num (coordP (ps.getD i nilPin) a)) := fun {j i} hj h0 hi =>
      ed_op (ed_op (ed_op (ed_var rfl) (ed_op (ed_var rfl) ed_int (rv_ixT (ds := [Dat.str b.1, .int (b.2.1 : Int), .int (b.2.2 : Int)]) (at_ofD (j := j.toNat) (by omega) hj))) (rv_ixL (pin_at hi rfl))) ed_int (rv_ixT (ds := [.str _, spotD _, waysD _]) rfl)) (ed_var rfl) (rv_ixT (ds := [num _, num _]) (at_ofD rfl (coordP_at ha)))
    exact rd_ret (ed_call (ea_cons (cx (j := 2) (i := b.2.2) rfl (by decide) h2) (ea_cons (ed_call (ea_cons (cx (j := 1) (i := b.2.1) rfl (by decide) h1) ea_nil) ⟨_, rfl, rfl⟩) ea_nil)) ⟨_, _, 64, 64, rfl, (hg.c h2 a).1, (good_turnL (hg.c h1 a)).1, by decide, rfl⟩) (.inl rfl)
theorem ok_law_dot (T : Txt K mg) (B : Bas Pr base) : FnOk Pr w K mg base CX0 41 (He.ga K "_law_dot") (fdAt K (He.ga K "_law_dot")) ["_law_one", "_law_other"] (spF (sysOf K) R_law_dot) := by
  refine pure_ok (S := sysOf K) (k := 40) T.F_law_dot sc_law_dot (fun ds d h => ?_) (fun cdv A outer s H E hr => ?_)
  · obtain ⟨p, q, n, m, h | h, _⟩ := h <;> subst h <;> rfl
  · refine ⟨_, (pss_one (ps_ret (pe_call (ok_law_sum T B) (hr.mono (by decide)) rfl T.g_law_sum T.F_law_sum.kp T.b_law_sum .nil pass0 (pa_cons (pe_call (ok_law_times T B) (hr.mono (by decide)) rfl T.g_law_times T.F_law_times.kp T.b_law_times .nil pass0 (pa_cons (pe_ix ix_seq (pv 0) pe_int (fun _ _ => rfl)) (pa_cons (pe_ix ix_seq (pv 1) pe_int (fun _ _ => rfl)) pa_nil))) (pa_cons (pe_call (ok_law_times T B) (hr.mono (by decide)) rfl T.g_law_times T.F_law_times.kp T.b_law_times .nil pass0 (pa_cons (pe_ix ix_seq (pv 0) pe_int (fun _ _ => rfl)) (pa_cons (pe_ix ix_seq (pv 1) pe_int (fun _ _ => rfl)) pa_nil))) pa_nil))))), fun ds d h => ?_⟩
    obtain ⟨p, q, n, m, hds, s1, s2, s3, s4, hl, rfl⟩ := h
    have ix : ∀ {i : Nat} {w : Num × Num} {a : Nat}, (ds[i]? = some (way w) ∨ ds[i]? = some (.lst [num w.1, num w.2])) → a < 2 → EvD (sysOf K) (tOp (rIx K) (tVar i) (tC (.int (a : Int)))) (start0 ["_law_one", "_law_other"] ds) (num (coordW w a)) := fun {i w a} h ha => by
      have gi : ∀ {d : Dat}, ds[i]? = some d → (start0 ["_law_one", "_law_other"] ds)[i]? = some (some d) := fun {d} hd => by
        have hil := (List.getElem?_eq_some_iff.mp hd).1
        unfold start0
        rw [List.getElem?_append_left (by simpa using hil), List.getElem?_map, hd]
        rfl
      rcases h with h | h
      · exact ed_op (ed_var (gi h)) ed_int (rv_seqT (rv_ixT (ds := [num w.1, num w.2]) (at_ofD rfl (coord_at ha))))
      · exact ed_op (ed_var (gi h)) ed_int (rv_seqL (rv_ixL (ds := [num w.1, num w.2]) (at_ofD rfl (coord_at ha))))
    have h0 : ds[0]? = some (way p) ∨ ds[0]? = some (.lst [num p.1, num p.2]) := by
      rcases hds with h | h <;> subst h
      · exact .inl rfl
      · exact .inr rfl
    have h1 : ds[1]? = some (way q) ∨ ds[1]? = some (.lst [num q.1, num q.2]) := by
      rcases hds with h | h <;> subst h
      · exact .inl rfl
      · exact .inr rfl
    exact rd_ret (ed_call (ea_cons (ed_call (ea_cons (ix (a := 0) h0 (by decide)) (ea_cons (ix (a := 0) h1 (by decide)) ea_nil)) ⟨p.1, q.1, n, m, rfl, s1, s3, by omega, rfl⟩) (ea_cons (ed_call (ea_cons (ix (a := 1) h0 (by decide)) (ea_cons (ix (a := 1) h1 (by decide)) ea_nil)) ⟨p.2, q.2, n, m, rfl, s2, s4, by omega, rfl⟩) ea_nil)) ⟨_, _, n + m, n + m, rfl, sz_times s1 s3, sz_times s2 s4, by omega, rfl⟩) (.inl rfl)
def R_law_longer (ds : List Dat) (d : Dat) : Prop := ∃ (ps : List Pin) (b : LBar) (mk : List (Key × Dat)) (mo : Nat → Num × Num) (M : Nat), ds = [pinsT ps, barT b, .dK mk] ∧ b.2.1 < ps.length ∧ b.2.2 < ps.length ∧ PinsGd ps ∧ MotOk ps mk mo M ∧ d = num (longL ps b mo)
theorem ok_law_longer (T : Txt K mg) (B : Bas Pr base) : FnOk Pr w K mg base CX0 42 (He.ga K "_law_longer") (fdAt K (He.ga K "_law_longer")) ["_law_pins_here", "_law_bar", "_law_motion"] (spF (sysOf K) R_law_longer) := by
  refine pure_ok (S := sysOf K) (k := 41) T.F_law_longer sc_law_longer (fun ds d h => ?_) (fun cdv A outer s H E hr => ?_)
  · obtain ⟨ps, b, mk, mo, M, rfl, _⟩ := h
    rfl
  · refine ⟨_, (pss_cons (ps_set (i := 3) (sc_law_longer).nd rfl (Or.inr rfl) (pe_dget (hu_of hr) (pv 2) (pe_ix ix_tup (pe_ix ix_list (pv 0) (pe_ix ix_tup (pv 1) pe_int (fun _ _ => rfl)) (fun _ _ => rfl)) pe_int (fun _ _ => rfl)) (fun _ _ => rfl))) (pss_cons (ps_set (i := 4) (sc_law_longer).nd rfl (Or.inr rfl) (pe_dget (hu_of hr) (pv 2) (pe_ix ix_tup (pe_ix ix_list (pv 0) (pe_ix ix_tup (pv 1) pe_int (fun _ _ => rfl)) (fun _ _ => rfl)) pe_int (fun _ _ => rfl)) (fun _ _ => rfl))) (pss_cons (ps_setLc (i := 5) (own := [("_law_axis", 6)]) (g := gName 6) (tt := tYes) rfl (sc_law_longer).nd rfl rfl (sw_true rfl rfl rfl (by decide +kernel)) (pi_range1 rfl T.n_range (pa_cons pe_int pa_nil)) (blkOk_by (N := ["_law_pins_here", "_law_bar", "_law_motion", "_law_here", "_law_there", "_law_more", "_law_axis"]) (sc := defScope s_law_longer) (by decide +kernel)) (fun _ _ _ _ _ => pg_name (i := 6) (sc_law_longer).nd rfl (Or.inl rfl)) (fun _ _ _ _ _ => pts_nil) (fun _ _ _ _ _ => (pe_call (ok_law_sum T B) (hr.mono (by decide)) rfl T.g_law_sum T.F_law_sum.kp T.b_law_sum .nil pass0 (pa_cons (pe_ix (ix_tupK K) (pv 4) (pv 6) (fun _ _ => rfl)) (pa_cons (pe_call (ok_law_turned T B) (hr.mono (by decide)) rfl T.g_law_turned T.F_law_turned.kp T.b_law_turned .nil pass0 (pa_cons (pe_ix (ix_tupK K) (pv 3) (pv 6) (fun _ _ => rfl)) pa_nil)) pa_nil))))) (pss_one (ps_ret (pe_call (ok_law_dot T B) (hr.mono (by decide)) rfl T.g_law_dot T.F_law_dot.kp T.b_law_dot .nil pass0 (pa_cons (pe_lst (pa_cons (pe_call (ok_law_arm T B) (hr.mono (by decide)) rfl T.g_law_arm T.F_law_arm.kp T.b_law_arm .nil pass0 (pa_cons (pv 0) (pa_cons (pv 1) (pa_cons pe_int pa_nil)))) (pa_cons (pe_call (ok_law_arm T B) (hr.mono (by decide)) rfl T.g_law_arm T.F_law_arm.kp T.b_law_arm .nil pass0 (pa_cons (pv 0) (pa_cons (pv 1) (pa_cons pe_int pa_nil)))) pa_nil))) (pa_cons (pv 5) pa_nil)))))))), fun ds d h => ?_⟩
    obtain ⟨ps, b, mk, mo, M, rfl, h1, h2, hg, hm, rfl⟩ := h
    have mx : ∀ {j : Int} {i : Nat} {G : Gam}, G[0]? = some (some (pinsT ps)) → G[1]? = some (some (barT b)) → G[2]? = some (some (.dK mk)) → [Dat.str b.1, .int (b.2.1 : Int), .int (b.2.2 : Int)][j.toNat]? = some (.int (i : Int)) → 0 ≤ j → i < ps.length →
        EvD (sysOf K) (tDGet (tVar 2) (tOp (rIxT K) (tOp (rIxL K) (tVar 0) (tOp (rIxT K) (tVar 1) (tC (.int j)))) (tC (.int 0)))) G (way (mo i)) := fun {j i G} g0 g1 g2 hj h0 hi =>
      ed_dget (k := .inr (nameAt ps i)) (ed_var g2) (ed_op (ed_op (ed_var g0) (ed_op (ed_var g1) ed_int (rv_ixT (ds := [Dat.str b.1, .int (b.2.1 : Int), .int (b.2.2 : Int)]) (at_ofD (j := j.toNat) (by omega) hj))) (rv_ixL (pin_at hi rfl))) ed_int (rv_ixT (ds := [.str _, spotD _, waysD _]) rfl)) (hm.v i hi)
    have gc : ∀ i, i < ps.length → ∀ a, Good M (coordW (mo i) a) := fun i hi a => by
      obtain ⟨g1, g2⟩ := hm.g i hi
      unfold coordW
      split
      · exact g1
      · exact g2
    have hM := hm.m
    refine rd_seq (rd_set (mx rfl rfl rfl (j := 1) (i := b.2.1) rfl (by decide) h1) ?_)
    refine rd_seq (rd_set (mx rfl rfl rfl (j := 2) (i := b.2.2) rfl (by decide) h2) ?_)
    refine rd_seq (rd_set (d := .lst [num (moreL mo b 0), num (moreL mo b 1)]) (ed_lc_range (n := 2) (rs := [num (moreL mo b 0), num (moreL mo b 1)]) ed_int (by decide) rfl (by decide) fun k r hr => ?_) ?_)
    · have hk2 : k < 2 := (List.getElem?_eq_some_iff.mp hr).1
      have er : r = num (moreL mo b k) := by
        match k, hk2, hr with
        | 0, _, hr => exact (Option.some.inj hr).symm
        | 1, _, hr => exact (Option.some.inj hr).symm
      subst er
      exact ed_call (ea_cons (ed_op (ed_var rfl) (ed_var rfl) (rv_ixT (ds := [num _, num _]) (at_ofD rfl (coord_at hk2)))) (ea_cons (ed_call (ea_cons (ed_op (ed_var rfl) (ed_var rfl) (rv_ixT (ds := [num _, num _]) (at_ofD rfl (coord_at hk2)))) ea_nil) ⟨_, rfl, rfl⟩) ea_nil)) ⟨_, _, M, M, rfl, (gc _ h2 k).1, (good_turnL (gc _ h1 k)).1, by omega, rfl⟩
    · have ga := arm_gd hg h1 h2
      have gm : ∀ a, Good (M + M + 1) (moreL mo b a) := fun a => good_sum (gc _ h2 a) (good_turnL (gc _ h1 a))
      have ea : ∀ {G : Gam} {a : Nat}, G[0]? = some (some (pinsT ps)) → G[1]? = some (some (barT b)) → a < 2 → EvD (sysOf K) (tCall (spF (sysOf K) R_law_arm) [] E0 (tCons (tVar 0) (tCons (tVar 1) (tCons (tC (.int (a : Int))) tNil)))) G (num (armL ps b a)) := fun {G a} g0 g1 ha => ed_call (ea_cons (ed_var g0) (ea_cons (ed_var g1) (ea_cons ed_int ea_nil))) ⟨ps, b, a, rfl, ha, h1, h2, hg, rfl⟩
      exact rd_ret (ed_call (ea_cons (ed_lst (ea_cons (ea (a := 0) rfl rfl (by decide)) (ea_cons (ea (a := 1) rfl rfl (by decide)) ea_nil))) (ea_cons (ed_var rfl) ea_nil)) ⟨(armL ps b 0, armL ps b 1), (moreL mo b 0, moreL mo b 1), 129, M + M + 1, .inr rfl, (ga 0).1, (ga 1).1, (gm 0).1, (gm 1).1, by omega, rfl⟩) (.inl rfl)
def R_law_keeps (ds : List Dat) (d : Dat) : Prop := ∃ (ps : List Pin) (mk : List (Key × Dat)) (mo : Nat → Num × Num) (M : Nat), ds = [pinsT ps, .dK mk] ∧ PinsGd ps ∧ MotOk ps mk mo M ∧ (∀ i p, ps[i]? = some p → ∀ w ∈ p.ways, (dotL w (mo i)).1 = 0) ∧ d = .bl true
theorem ok_law_keeps (T : Txt K mg) (B : Bas Pr base) : FnOk Pr w K mg base CX0 42 (He.ga K "_law_keeps") (fdAt K (He.ga K "_law_keeps")) ["_law_pins_here", "_law_motion"] (spF (sysOf K) R_law_keeps) := by
  refine pure_ok (S := sysOf K) (k := 41) T.F_law_keeps sc_law_keeps (fun ds d h => ?_) (fun cdv A outer s H E hr => ?_)
  · obtain ⟨ps, mk, mo, M, rfl, _⟩ := h
    rfl
  · refine ⟨_, (pss_cons (ps_for PassesOwn.never rfl (pi_list (pv 0)) (pg_tup rfl (pgs_cons (pg_name (i := 2) (sc_law_keeps).nd rfl (Or.inl rfl)) (pgs_cons (pg_name (i := 3) (sc_law_keeps).nd rfl (Or.inl rfl)) (pgs_cons (pg_name (i := 4) (sc_law_keeps).nd rfl (Or.inl rfl)) pgs_nil)))) (pss_one (ps_for PassesOwn.never rfl (pi_list (pv 4)) (pg_name (i := 5) (sc_law_keeps).nd rfl (Or.inl rfl)) (pss_one (ps_if (pt_cmpR op_ne (pe_ix ix_tup (pe_call (ok_law_dot T B) (hr.mono (by decide)) rfl T.g_law_dot T.F_law_dot.kp T.b_law_dot .nil pass0 (pa_cons (pv 5) (pa_cons (pe_dget (hu_of hr) (pv 1) (pv 2) (fun _ _ => rfl)) pa_nil))) pe_int (fun _ _ => rfl)) pe_int (nomark _)) (pss_one (ps_ret pe_bl)) pss_nil))))) (pss_one (ps_ret pe_bl))), fun ds d h => ?_⟩
    obtain ⟨ps, mk, mo, M, rfl, hg, hm, hz, rfl⟩ := h
    have hM := hm.m
    refine rd_seq (rd_for_list (ds := ps.map pinT) (ed_var rfl) (fun k G => ∃ x2 x3 x4 x5, G = [some (pinsT ps), some (.dK mk), x2, x3, x4, x5]) ⟨_, _, _, _, rfl⟩ ?_ ?_)
    · rintro k d G hd ⟨x2, x3, x4, x5, rfl⟩
      obtain ⟨p, hp, rfl⟩ := map_get hd
      have hkl := (List.getElem?_eq_some_iff.mp hp).1
      have hnm : nameAt ps k = p.name := by unfold nameAt; rw [getD_of hp]
      obtain ⟨_, _, gw⟩ := hg p (get_mem hp)
      obtain ⟨g1, g2⟩ := hm.g k hkl
      refine ⟨_, tg_tup (ds := [.str p.name, spotD p, waysD p.ways]) (tgs_cons tg_name (tgs_cons tg_name (tgs_cons tg_name tgs_nil))), rd_for_list (ds := p.ways.map way) (ed_var rfl) (fun j G => ∃ x5, G = [some (pinsT ps), some (.dK mk), some (.str p.name), some (spotD p), some (waysD p.ways), x5]) ⟨_, rfl⟩ ?_ ?_⟩
      · rintro j d G hd ⟨x5, rfl⟩
        obtain ⟨wy, hw, rfl⟩ := map_get hd
        have hwm := get_mem hw
        refine ⟨_, tg_name, rd_if (b := false) ((et_test (ed_op (ed_n0 (q := dotL wy (mo k)) (ed_call (ea_cons (ed_var rfl) (ea_cons (ed_dget (k := .inr p.name) (ed_var rfl) (ed_var rfl) (by rw [← hnm]; exact hm.v k hkl)) ea_nil)) ⟨wy, mo k, 64, M, .inl rfl, (gw wy hwm).1.1, (gw wy hwm).2.1, g1.1, g2.1, by omega, rfl⟩)) ed_int rv_neI)).to (decide_eq_false (by rw [hz k p hp wy hwm]; decide))) (fun h => by cases h) fun _ => rd_next ⟨_, rfl⟩⟩
      · rintro G ⟨x5, rfl⟩
        exact ⟨_, _, _, _, rfl⟩
    · rintro G ⟨x2, x3, x4, x5, rfl⟩
      exact rd_ret ed_bl (.inl rfl)
def R_law_is_motion (ds : List Dat) (d : Dat) : Prop := ∃ (ps : List Pin) (mk : List (Key × Dat)) (mo : Nat → Num × Num) (M : Nat), ds = [pinsT ps, .dK mk] ∧ MotOk ps mk mo M ∧ ps.length ≤ 5 ∧ mk.map (·.1) = ps.map (fun p => (Sum.inr p.name : Key)) ∧ (∀ p ∈ ps, PyData.strOk p.name = true) ∧ (∀ i, i < ps.length → Low (mo i).1 ∧ Low (mo i).2) ∧ d = .bl true
theorem ok_law_is_motion (T : Txt K mg) (B : Bas Pr base) : FnOk Pr w K mg base CX0 42 (He.ga K "_law_is_motion") (fdAt K (He.ga K "_law_is_motion")) ["_law_pins_here", "_law_motion"] (spF (sysOf K) R_law_is_motion) := by
  refine pure_ok (S := sysOf K) (k := 41) T.F_law_is_motion sc_law_is_motion (fun ds d h => ?_) (fun cdv A outer s H E hr => ?_)
  · obtain ⟨ps, mk, mo, M, rfl, _⟩ := h
    rfl
  · refine ⟨_, (pss_cons (ps_if (PW.pt (pw_or (pt_not (pt_val (pe_callB call_isi (by rfl) T.n_isinstance (by decide +kernel) (pa_cons (pv 1) (pa_cons (pe_bltn (v := .ty "dict") (u := .type "dict") rfl T.n_dict (by decide +kernel) rfl) pa_nil))))) (pw_or1 (pt_cmpR (op_neD hr.units) (pe_callTy (call_list_dK rfl) (by rfl) T.n_list (by decide +kernel) (pa_cons (pv 1) pa_nil)) (pe_lc (own := [("_law_pin", 5)]) (g := gName 5) (tt := tYes) rfl (sc_law_is_motion).nd (pi_list (pv 0)) (blkOk_by (N := ["_law_pins_here", "_law_motion", "_law_name_here", "_law_spot_here", "_law_ways_here", "_law_pin"]) (sc := defScope s_law_is_motion) (by decide +kernel)) (fun _ _ _ _ _ => pg_name (i := 5) (sc_law_is_motion).nd rfl (Or.inl rfl)) (fun _ _ _ _ _ => pts_nil) (fun _ _ _ _ _ => (pe_ix (ix_tupK K) (pv 5) pe_int (fun _ _ => rfl)))) (nomark _))))) (pss_one (ps_ret pe_bl)) pss_nil) (pss_cons (ps_for PassesOwn.never rfl (pi_list (pv 0)) (pg_tup rfl (pgs_cons (pg_name (i := 2) (sc_law_is_motion).nd rfl (Or.inl rfl)) (pgs_cons (pg_name (i := 3) (sc_law_is_motion).nd rfl (Or.inl rfl)) (pgs_cons (pg_name (i := 4) (sc_law_is_motion).nd rfl (Or.inl rfl)) pgs_nil)))) (pss_cons (ps_if (PW.pt (pw_or (pt_not (pt_val (pe_callB call_isi (by rfl) T.n_isinstance (by decide +kernel) (pa_cons (pe_dget (hu_of hr) (pv 1) (pv 2) (fun _ _ => rfl)) (pa_cons (pe_bltn (v := .ty "tuple") (u := .type "tuple") rfl T.n_tuple (by decide +kernel) rfl) pa_nil))))) (pw_or1 (pt_cmpR op_ne (pe_callB call_len_seq (by rfl) T.n_len (by decide +kernel) (pa_cons (pe_dget (hu_of hr) (pv 1) (pv 2) (fun _ _ => rfl)) pa_nil)) pe_int (nomark _))))) (pss_one (ps_ret pe_bl)) pss_nil) (pss_one (ps_if (PW.pt (pw_or (pt_not (pt_val (pe_call (ok_law_number T B) (hr.mono (by decide)) rfl T.g_law_number T.F_law_number.kp T.b_law_number .nil pass0 (pa_cons (pe_ix ix_tup (pe_dget (hu_of hr) (pv 1) (pv 2) (fun _ _ => rfl)) pe_int (fun _ _ => rfl)) pa_nil)))) (pw_or1 (pt_not (pt_val (pe_call (ok_law_number T B) (hr.mono (by decide)) rfl T.g_law_number T.F_law_number.kp T.b_law_number .nil pass0 (pa_cons (pe_ix ix_tup (pe_dget (hu_of hr) (pv 1) (pv 2) (fun _ _ => rfl)) pe_int (fun _ _ => rfl)) pa_nil))))))) (pss_one (ps_ret pe_bl)) pss_nil)))) (pss_one (ps_ret pe_bl)))), fun ds d h => ?_⟩
    obtain ⟨ps, mk, mo, M, rfl, hm, hl, hk, hs, hlow, rfl⟩ := h
    have ek : mk.map (fun kv => keyD kv.1) = (ps.map Pin.name).map Dat.str := by
      have : mk.map (fun kv => keyD kv.1) = (mk.map (·.1)).map keyD := by rw [List.map_map]; rfl
      rw [this, hk, List.map_map, List.map_map]
      rfl
    refine rd_seq (rd_if (b := false) (et_or (a := false) (et_not (a := true) (et_B (ed_cb (ea_cons (ed_var rfl) (ea_cons ed_ty ea_nil)) (rc_isi (n := "dict") (b := true) rfl)))) fun _ => et_test (ed_op (x := .lst ((ps.map Pin.name).map .str)) (y := .lst ((ps.map Pin.name).map .str)) ((ed_cb (ea_cons (ed_var rfl) ea_nil) rc_listD).to (by rw [ek])) (ed_lc_list (ds := ps.map pinT) (rs := (ps.map Pin.name).map .str) (ed_var rfl) (by simp) (by rw [List.length_map]; omega) fun k d r hd hr => ?_) (rv_neNames fun x hx => ?_))) (fun h => by cases h) fun _ => rd_next ?_)
    · obtain ⟨p, hp, rfl⟩ := map_get hd
      obtain ⟨q, hq, rfl⟩ := map_get hr
      obtain ⟨p', hp', rfl⟩ := map_get hq
      rw [hp] at hp'
      cases hp'
      exact ed_op (ed_var rfl) ed_int (rv_ixT (ds := [.str _, spotD _, waysD _]) rfl)
    · obtain ⟨p, hp, rfl⟩ := List.mem_map.mp hx
      exact hs p hp
    · refine rd_seq (rd_for_list (ds := ps.map pinT) (ed_var rfl) (fun k G => ∃ x2 x3 x4 x5, G = [some (pinsT ps), some (.dK mk), x2, x3, x4, x5]) ⟨_, _, _, _, rfl⟩ ?_ ?_)
      · rintro k d G hd ⟨x2, x3, x4, x5, rfl⟩
        obtain ⟨p, hp, rfl⟩ := map_get hd
        have hkl := (List.getElem?_eq_some_iff.mp hp).1
        have hnm : nameAt ps k = p.name := by unfold nameAt; rw [getD_of hp]
        obtain ⟨l1, l2⟩ := hlow k hkl
        have eg : ∀ {G : Gam}, G[1]? = some (some (.dK mk)) → G[2]? = some (some (.str p.name)) → EvD (sysOf K) (tDGet (tVar 1) (tVar 2)) G (way (mo k)) := fun g1 g2 => ed_dget (k := .inr p.name) (ed_var g1) (ed_var g2) (by rw [← hnm]; exact hm.v k hkl)
        refine ⟨_, tg_tup (ds := [.str p.name, spotD p, waysD p.ways]) (tgs_cons tg_name (tgs_cons tg_name (tgs_cons tg_name tgs_nil))), ?_⟩
        refine rd_seq (rd_if (b := false) (et_or (a := false) (et_not (a := true) (et_B (ed_cb (ea_cons (eg rfl rfl) (ea_cons ed_ty ea_nil)) (rc_isi (n := "tuple") (b := true) rfl)))) fun _ => et_test (ed_op (ed_cb (ea_cons (eg rfl rfl) ea_nil) (rc_lenT (ds := [num _, num _]))) ed_int rv_neI)) (fun h => by cases h) fun _ => rd_next ?_)
        refine rd_if (b := false) (et_or (a := false) (et_not (a := true) (et_B (ed_call (ea_cons (ed_op (eg rfl rfl) ed_int (rv_ixT (ds := [num _, num _]) rfl)) ea_nil) ⟨_, rfl, l1, rfl⟩))) fun _ => et_not (a := true) (et_B (ed_call (ea_cons (ed_op (eg rfl rfl) ed_int (rv_ixT (ds := [num _, num _]) rfl)) ea_nil) ⟨_, rfl, l2, rfl⟩))) (fun h => by cases h) fun _ => rd_next ⟨_, _, _, _, rfl⟩
      · rintro G ⟨x2, x3, x4, x5, rfl⟩
        exact rd_ret ed_bl (.inl rfl)
end
end Ty
set_option Elab.async false
set_option linter.all false
set_option maxRecDepth 100000
set_option maxHeartbeats 4000000
/-! _law_add, _law_forces: a list of lists, filled. -/
namespace Ty
open PySem PySem.Spec PyProof.Rows L2
def pairD (q : Num × Num) : Dat := .lst [num q.1, num q.2]
def foundD (fs : List (Num × Num)) : Dat := .lst (fs.map pairD)
structure FoundAt (S : Sys) (H0 H1 H : Hp) (D : Addr) (ls : List Addr) (fs : List (Num × Num)) : Prop where
  nd : (D :: ls).Nodup
  fr : ∀ a ∈ D :: ls, H0 a = none ∧ H1 a = none
  dl : H D = some (.lst (ls.map .ref))
  len : ls.length = fs.length
  it : ∀ (i : Nat) (a : Addr) (q : Num × Num), ls[i]? = some a → fs[i]? = some q → ∃ v0 v1, H a = some (.lst [v0, v1]) ∧ Dt S H1 v0 (num q.1) ∧ Dt S H1 v1 (num q.2)
section
variable {S : Sys} {Hs H0 H1 H H2 H' : Hp} {D : Addr} {ls : List Addr} {fs : List (Num × Num)}
theorem FoundAt.has (p : FoundAt S H0 H1 H D ls fs) : ∀ a ∈ D :: ls, ∃ l, H a = some (.lst l) := by
  intro a ha
  rcases List.mem_cons.mp ha with rfl | ha
  · exact ⟨_, p.dl⟩
  · obtain ⟨i, hi⟩ := List.mem_iff_getElem?.mp ha
    have hl := (List.getElem?_eq_some_iff.mp hi).1
    rw [p.len] at hl
    obtain ⟨v0, v1, h, _⟩ := p.it i a _ hi (List.getElem?_eq_getElem hl)
    exact ⟨_, h⟩
theorem FoundAt.step (p : FoundAt S H0 H1 H D ls fs) (s : Step H1 H H2 H') : FoundAt S H0 H2 H' D ls fs :=
  ⟨p.nd, fun a ha => ⟨(p.fr a ha).1, by
    obtain ⟨l, hl⟩ := p.has a ha
    exact step_none s (p.fr a ha).2 hl⟩, s.s3 _ _ p.dl, p.len, fun i a q h1 h2 => by
    obtain ⟨v0, v1, h, d0, d1⟩ := p.it i a q h1 h2
    exact ⟨v0, v1, s.s3 _ _ h, d0.mono s.s1, d1.mono s.s1⟩⟩
/-- as data: the still part with the lists -/
def withL (H1 H : Hp) (A : List Addr) : Hp := fun b => if b ∈ A then H b else H1 b
def lessL (H1 : Hp) (A : List Addr) : Hp := fun b => if b ∈ A then none else H1 b
theorem with_in {A : List Addr} {b : Addr} (h : b ∈ A) : withL H1 H A b = H b := if_pos h
theorem with_out {A : List Addr} {b : Addr} (h : ¬ b ∈ A) : withL H1 H A b = H1 b := if_neg h
theorem DtA_pairs {S : Sys} {H : Hp} : ∀ {ls : List Addr} {fs : List (Num × Num)}, ls.length = fs.length → (∀ (i : Nat) (a : Addr) (q : Num × Num), ls[i]? = some a → fs[i]? = some q → Dt S H (.ref a) (pairD q)) → DtA S H (ls.map V.ref) (fs.map pairD)
  | [], [], _, _ => .nil
  | a :: ls, q :: fs, hl, h => .cons (h 0 a q rfl rfl) (DtA_pairs (by simpa using hl) fun i a q h1 h2 => h (i + 1) a q (by simpa using h1) (by simpa using h2))
theorem FoundAt.dt (p : FoundAt S H0 H1 H D ls fs) (e : Same H1 H) : Same H1 (withL H1 H (D :: ls)) ∧ Same (withL H1 H (D :: ls)) H ∧ Dt S (withL H1 H (D :: ls)) (.ref D) (foundD fs) := by
  have s1 : Same H1 (withL H1 H (D :: ls)) := fun b o hb => by
    have : ¬ b ∈ D :: ls := fun m => by
      rw [(p.fr b m).2] at hb
      cases hb
    rw [with_out this]
    exact hb
  refine ⟨s1, fun b o hb => ?_, ?_⟩
  · by_cases m : b ∈ D :: ls
    · rw [with_in m] at hb
      exact hb
    · rw [with_out m] at hb
      exact e _ _ hb
  · refine .lst (by rw [with_in List.mem_cons_self]; exact p.dl) (DtA_pairs p.len fun i a q h1 h2 => ?_)
    obtain ⟨v0, v1, h, d0, d1⟩ := p.it i a q h1 h2
    exact .lst (by rw [with_in (List.mem_cons_of_mem _ (get_mem h1))]; exact h) (.cons (d0.mono s1) (.cons (d1.mono s1) .nil))
theorem num_less {A : List Addr} {v : V} {q : Num} (h : Dt S H v (num q)) (hA : ∀ a ∈ A, ∃ l, H a = some (.lst l)) : Dt S (lessL H A) v (num q) := by
  cases h with
  | @tup a xs _ ha hd =>
    have e : xs = [V.int q.1, V.int q.2] := DtA.ints (ns := [q.1, q.2]) hd
    subst e
    refine .tup ?_ (.cons (.int _) (.cons (.int _) .nil))
    have keep : ∀ {u : HO}, H a = some u → (∀ l, u ≠ .lst l) → lessL H A a = some u := fun {u} hu ne => by
      have : ¬ a ∈ A := fun m => by
        obtain ⟨l, hl⟩ := hA a m
        rw [hu] at hl
        cases hl
        exact ne _ rfl
      unfold lessL
      rw [if_neg this]
      exact hu
    rcases ha with (ha | ⟨o, ha⟩) | ha
    · exact .inl (.inl (keep ha fun l z => by cases z))
    · exact .inl (.inr ⟨o, keep ha fun l z => by cases z⟩)
    · exact .inr ha
end
theorem raw_asgS {te : TE} {g : TG} {Ds : Ends} {σ : L2.St} {H : Hp} (h : te σ H fun v H' => g v σ H' fun σ' H'' => Ds.nx σ' H'') : tAsg te g Ds σ H := h
def addAt (fs : List (Num × Num)) (k a : Nat) (d : Num) : List (Num × Num) := fs.set k (if a = 0 then (sumL (fs.getD k ((0, 1), (0, 1))).1 d, (fs.getD k ((0, 1), (0, 1))).2) else ((fs.getD k ((0, 1), (0, 1))).1, sumL (fs.getD k ((0, 1), (0, 1))).2 d))
section
variable {Pr : Program} {w : World} {K : PySem.W.Frag} {mg : Str → Option Value} {base : Heap}
def Sp_add (S : Sys) : Sp := fun vs H Q _ => ∃ Hs H0 H1 D ls fs k a draw vd n m, vs = [.ref D, .int (k : Nat), .int (a : Nat), vd] ∧ Step Hs H0 H1 H ∧ FoundAt S H0 H1 H D ls fs ∧ Dt S H1 vd (num draw) ∧ k < fs.length ∧ a < 2 ∧ Sz n (coordW (fs.getD k ((0, 1), (0, 1))) a) ∧ Sz m draw ∧ n + m ≤ 134217728 ∧
  ∀ H2 H', Step Hs H0 H2 H' → Same H1 H2 → FoundAt S H0 H2 H' D ls (addAt fs k a draw) → Q .non H'
theorem ok_law_add (T : Txt K mg) (B : Bas Pr base) : FnOk Pr w K mg base CX0 41 (He.ga K "_law_add") (fdAt K (He.ga K "_law_add")) ["_law_found", "_law_k", "_law_axis", "_law_draw"] (Sp_add (sysOf K)) := by
  refine FunD.ok T.F_law_add sc_law_add (fun vs H Q E h => ?_) (fun cdv A outer s H vs Q E hr h => ?_)
  · obtain ⟨Hs, H0, H1, D, ls, fs, k, a, draw, vd, n, m, rfl, _⟩ := h
    rfl
  · obtain ⟨Hs, H0, H1, D, ls, fs, k, a, draw, vd, n, m, rfl, st, fa, dd, hk, ha, s1, s2, hnm, q⟩ := h
    refine ⟨_, PSs.nox (pss_one (ps_asg (pe_call (ok_law_sum T B) (hr.mono (by decide)) rfl T.g_law_sum T.F_law_sum.kp T.b_law_sum .nil pass0 (pa_cons (pe_ix ix_list (pe_ix ix_list (pv 0) (pv 1) (fun _ _ => rfl)) (pv 2) (fun _ _ => rfl)) (pa_cons (pv 3) pa_nil))) (pg_sub (pe_ix ix_list (pv 0) (pv 1) (fun _ _ => rfl)) (pv 2) set_list))), ?_⟩
    obtain ⟨f1, f2, fd⟩ := fa.dt st.s2
    have hkl : k < ls.length := by rw [fa.len]; exact hk
    have hfk : fs[k]? = some (fs.getD k ((0, 1), (0, 1))) := by rw [List.getD_eq_getElem?_getD, List.getElem?_eq_getElem hk]; rfl
    have hlk : ls[k]? = some ls[k] := List.getElem?_eq_getElem hkl
    have hmem : ls[k] ∈ D :: ls := List.mem_cons_of_mem _ (List.getElem_mem hkl)
    have E1 : EnvD (sysOf K) (withL H1 H (D :: ls)) (L2.start ["_law_found", "_law_k", "_law_axis", "_law_draw"] [.ref D, .int (k : Nat), .int (a : Nat), vd]) [some (foundD fs), some (.int (k : Int)), some (.int (a : Int)), some (num draw)] := env_start (ds := [foundD fs, .int (k : Int), .int (a : Int), num draw]) (.cons fd (.cons (.int _) (.cons (.int _) (.cons (dd.mono f1) .nil))))
    have exk : EvD (sysOf K) (tOp (rIxL K) (tVar 0) (tVar 1)) [some (foundD fs), some (.int (k : Int)), some (.int (a : Int)), some (num draw)] (pairD (fs.getD k ((0, 1), (0, 1)))) := ed_op (ed_var rfl) (ed_var rfl) (rv_ixL (at_ofD rfl (by rw [List.getElem?_map, hfk]; rfl)))
    have exa : EvD (sysOf K) (tOp (rIxL K) (tOp (rIxL K) (tVar 0) (tVar 1)) (tVar 2)) [some (foundD fs), some (.int (k : Int)), some (.int (a : Int)), some (num draw)] (num (coordW (fs.getD k ((0, 1), (0, 1))) a)) := ed_op exk (ed_var rfl) (rv_ixL (ds := [num _, num _]) (at_ofD rfl (coord_at ha)))
    refine raw_asgS (ed_call (R := R_law_sum) (E0 := E0) (ea_cons exa (ea_cons (ed_var (i := 3) rfl) ea_nil)) ⟨_, _, n, m, rfl, s1, s2, hnm, rfl⟩ _ _ H f2 E1 _ fun H2 H' v s2 dv => ?_)
    -- the place
    have hl2 : ∀ b ∈ D :: ls, ∃ l, H2 b = some (.lst l) := fun b hb => by
      obtain ⟨l, hl⟩ := fa.has b hb
      exact ⟨l, s2.s1 _ _ (by rw [with_in hb]; exact hl)⟩
    have hD' := s2.s3 _ _ fa.dl
    obtain ⟨v0, v1, hL, d0, d1⟩ := fa.it k _ _ hlk hfk
    have hL' := s2.s3 _ _ hL
    refine ⟨_, rfl, _, rfl, D, ls.map .ref, (k : Int), .ref ls[k], rfl, rfl, SqL.of hD', ?_, _, rfl, ls[k], [v0, v1], (a : Int), a, rfl, rfl, hL', ?_, ?_⟩
    · exact at_ofD rfl (by rw [List.getElem?_map, hlk]; rfl)
    · unfold ixN
      rw [if_pos (by omega), if_pos (by show (a : Int) < 2; omega)]
      simp
    · have sl : Same H1 (lessL H2 (D :: ls)) := fun b o hb => by
        have : ¬ b ∈ D :: ls := fun m => by
          rw [(fa.fr b m).2] at hb
          cases hb
        unfold lessL
        rw [if_neg this]
        exact s2.s1 _ _ (f1 _ _ hb)
      have hkout : lessL H2 (D :: ls) ls[k] = none := by
        unfold lessL
        rw [if_pos hmem]
      have sl2 : Same (lessL H2 (D :: ls)) H' := fun b o hb => by
        unfold lessL at hb
        split at hb
        · cases hb
        · exact s2.s2 _ _ hb
      have stN : Step Hs H0 (lessL H2 (D :: ls)) (upd H' ls[k] (.lst ([v0, v1].set a v))) := by
        refine ⟨st.s1.trans sl, same_mut sl2 hkout, same_mut (st.s3.trans s2.s3) (fa.fr _ hmem).1, fun b o hb => ?_⟩
        unfold lessL at hb
        split at hb
        · cases hb
        · rename_i hb2
          rcases s2.fr b o hb with r | r
          · rw [with_out hb2] at r
            exact st.fr b o r
          · exact .inr (st.s3.free r)
      have dv' := num_less dv hl2
      refine q _ _ stN sl ⟨fa.nd, fun b hb => ⟨(fa.fr b hb).1, by unfold lessL; rw [if_pos hb]⟩, ?_, by unfold addAt; rw [List.length_set]; exact fa.len, fun i b qq h1 h2 => ?_⟩
      · have : D ≠ ls[k] := fun z => (List.nodup_cons.mp fa.nd).1 (by rw [z]; exact List.getElem_mem hkl)
        rw [upd_ne this]
        exact hD'
      · unfold addAt at h2
        by_cases hik : i = k
        · subst hik
          rw [hlk] at h1
          cases h1
          rw [List.getElem?_set_self hk] at h2
          have h2 := (Option.some.inj h2).symm
          match a, ha with
          | 0, _ =>
            subst h2
            exact ⟨v, v1, upd_same, dv', d1.mono sl⟩
          | 1, _ =>
            subst h2
            exact ⟨v0, v, upd_same, d0.mono sl, dv'⟩
        · rw [List.getElem?_set_ne (Ne.symm hik)] at h2
          obtain ⟨w0, w1, h, e0, e1⟩ := fa.it i b qq h1 h2
          have hne : b ≠ ls[k] := fun z => by
            rw [z] at h1
            have hil := (List.getElem?_eq_some_iff.mp h1).1
            exact hik ((List.getElem?_inj hil (List.nodup_cons.mp fa.nd).2).mp (h1.trans hlk.symm))
          exact ⟨w0, w1, by rw [upd_ne hne]; exact s2.s3 _ _ h, e0.mono sl, e1.mono sl⟩
end
end Ty
set_option Elab.async false
set_option linter.all false
set_option maxRecDepth 100000
set_option maxHeartbeats 8000000
/-! _law_forces. -/
namespace Ty
open PySem PySem.Spec PyProof.Rows L2
def z2 : Num × Num := ((0, 1), (0, 1))
abbrev cell (fs : List (Num × Num)) (k a : Nat) : Num := coordW (fs.getD k z2) a
theorem addAt_len (fs : List (Num × Num)) (k a : Nat) (d : Num) : (addAt fs k a d).length = fs.length := by
  unfold addAt
  rw [List.length_set]
theorem addAt_get {fs : List (Num × Num)} {k a k' a' : Nat} {d : Num} (hk : k < fs.length) (ha : a < 2) (ha' : a' < 2) : cell (addAt fs k a d) k' a' = if k' = k ∧ a' = a then sumL (cell fs k a) d else cell fs k' a' := by
  unfold addAt cell
  by_cases e : k' = k
  · subst e
    rw [List.getD_eq_getElem?_getD, List.getElem?_set_self hk]
    show coordW (if a = 0 then (sumL (fs.getD k' z2).1 d, (fs.getD k' z2).2) else ((fs.getD k' z2).1, sumL (fs.getD k' z2).2 d)) a' = _
    match a, a', ha, ha' with
    | 0, 0, _, _ => simp [coordW]
    | 0, 1, _, _ => simp [coordW]
    | 1, 0, _, _ => simp [coordW]
    | 1, 1, _, _ => simp [coordW]
  · rw [List.getD_eq_getElem?_getD, List.getElem?_set_ne (Ne.symm e), ← List.getD_eq_getElem?_getD, if_neg (fun h => e h.1)]
section
def RunA (S : Sys) (Hs H0 : Hp) (D : Addr) (ls : List Addr) (ts : TS) (G : Gam) (fs : List (Num × Num)) (P : Gam → List (Num × Num) → Prop) : Prop := ∀ σ H1 H (Ds : Ends), Step Hs H0 H1 H → EnvD S H1 σ G → FoundAt S H0 H1 H D ls fs →
  (∀ G' fs' σ' H2 H', P G' fs' → Step Hs H0 H2 H' → Same H1 H2 → EnvD S H2 σ' G' → FoundAt S H0 H2 H' D ls fs' → Ds.nx σ' H') → ts Ds σ H
variable {S : Sys} {Hs H0 : Hp} {D : Addr} {ls : List Addr} {t u : TS} {G : Gam} {fs : List (Num × Num)} {P : Gam → List (Num × Num) → Prop} {te : TE} {d : Dat}
theorem ra_seq (h : RunA S Hs H0 D ls t G fs (fun G' fs' => RunA S Hs H0 D ls u G' fs' P)) : RunA S Hs H0 D ls (tSeq t u) G fs P := fun σ H1 H Ds st E fa q =>
  h σ H1 H { Ds with nx := u Ds } st E fa fun G' fs' σ' H2 H' r st' s E' fa' => r σ' H2 H' Ds st' E' fa' fun G3 fs3 σ3 H3 H3' p st3 s3 => q G3 fs3 σ3 H3 H3' p st3 (s.trans s3)
theorem ra_set {i : Nat} (h : EvD S te G d) (p : P (G.set i (some d)) fs) : RunA S Hs H0 D ls (tAsg te (gName i)) G fs P := fun σ H1 H Ds st E fa q =>
  h σ H1 H st.s2 E _ fun H2 H' v s dv => q _ _ _ H2 H' p (st.trans s) s.s1 ((E.mono s.s1).set dv) (fa.step s)
theorem ra_for_range {i : Nat} {n : Nat} (hl : EvD S te G (.int (n : Int))) (hn : n ≤ 1000) (I : Nat → Gam → List (Num × Num) → Prop) (h0 : I 0 G fs)
    (hs : ∀ (k : Nat) (G : Gam) (fs : List (Num × Num)), k < n → I k G fs → RunA S Hs H0 D ls t (G.set i (some (.int (k : Int)))) fs (I (k + 1))) (hd : ∀ G fs, I n G fs → P G fs) : RunA S Hs H0 D ls (tFor (iRng1 (tCons te tNil)) (gName i) t) G fs P := fun σ H1 H Ds st E fa q => by
  refine hl σ H1 H st.s2 E _ fun H2 H' v s dv => ?_
  cases dv
  refine ⟨(n : Int), rfl, by omega, by omega, for_range (lo := 0) (n := (n : Int).toNat) (fun k σ3 H3 => ∃ H4 G3 fs3, Step Hs H0 H4 H3 ∧ Same H1 H4 ∧ EnvD S H4 σ3 G3 ∧ FoundAt S H0 H4 H3 D ls fs3 ∧ I k G3 fs3) ⟨H2, G, fs, st.trans s, s.s1, E.mono s.s1, fa.step s, h0⟩ ?_ ?_⟩
  · rintro k σ3 H3 hk ⟨H4, G3, fs3, st3, s3, E3, fa3, i3⟩
    rw [show (0 : Int) + (k : Int) = (k : Int) from Int.zero_add _]
    exact hs k G3 fs3 (by omega) i3 (σ3.set i (some (.int (k : Int)))) H4 H3 _ st3 (E3.set (.int _)) fa3 fun G5 fs5 σ5 H5 H5' i5 st5 s5 E5 fa5 => ⟨H5, G5, fs5, st5, s3.trans s5, E5, fa5, i5⟩
  · rintro σ3 H3 ⟨H4, G3, fs3, st3, s3, E3, fa3, i3⟩
    rw [Int.toNat_natCast] at i3
    exact q G3 fs3 σ3 H4 H3 (hd G3 fs3 i3) st3 s3 E3 fa3
theorem ra_call {sp : Sp} {E0 : XK} {ta : TA} {Ds : Ends} {σ : L2.St} {H : Hp} (h : ta σ H fun vs H1 => sp (vs ++ []) H1 (fun _ H2 => Ds.nx σ H2) E0) : tDrop (tCall sp [] E0 ta) Ds σ H := h
theorem ra_add {i : Nat} {E0 : XK} {t1 t2 t3 : TE} {k a n m : Nat} {draw : Num} (hi : G[i]? = some (some (.ptr D))) (e1 : EvD S t1 G (.int (k : Int))) (e2 : EvD S t2 G (.int (a : Int))) (e3 : EvD S t3 G (num draw)) (hk : k < fs.length) (ha : a < 2) (s1 : Sz n (cell fs k a)) (s2 : Sz m draw) (hnm : n + m ≤ 134217728)
    (p : P G (addAt fs k a draw)) : RunA S Hs H0 D ls (tDrop (tCall (Sp_add S) [] E0 (tCons (tVar i) (tCons t1 (tCons t2 (tCons t3 tNil)))))) G fs P := fun σ H1 H Ds st E fa q =>
  ra_call ((ea_cons (ed_var hi) (ea_cons e1 (ea_cons e2 (ea_cons e3 ea_nil)))) σ H1 H st.s2 E _ fun H2 H' vs s dv => by
    cases dv with
    | cons d0 t0 =>
      cases t0 with
      | cons d1 t1 =>
        cases t1 with
        | cons d2 t2 =>
          cases t2 with
          | cons d3 t3 =>
            cases t3
            cases d0
            cases d1
            cases d2
            exact ⟨Hs, H0, H2, D, ls, fs, k, a, draw, _, n, m, rfl, st.trans s, fa.step s, d3, hk, ha, s1, s2, hnm, fun H3 H'' st3 s3 fa3 => q G _ σ H3 H'' p st3 (s.s1.trans s3) (E.mono (s.s1.trans s3)) fa3⟩)
end
/-! the draws -/
def cB (ps : List Pin) (bs : List LBar) (pu : Nat → Num) (k a j : Nat) : Rat :=
  (if (bs.getD j ("", 0, 0)).2.1 = k then val (pu j) * val (armL ps (bs.getD j ("", 0, 0)) a) else 0) + (if (bs.getD j ("", 0, 0)).2.2 = k then - (val (pu j) * val (armL ps (bs.getD j ("", 0, 0)) a)) else 0)
def wayAt (ps : List Pin) (k j : Nat) : Num × Num := (ps.getD k nilPin).ways.getD j z2
def cW (ps : List Pin) (qu : Nat → List Num) (k a j : Nat) : Rat := val ((qu k).getD j (0, 1)) * val (coordW (wayAt ps k j) a)
def totF (ps : List Pin) (bs : List LBar) (pu : Nat → Num) (qu : Nat → List Num) (k a : Nat) : Rat := sumR bs.length (cB ps bs pu k a) + sumR (ps.getD k nilPin).ways.length (cW ps qu k a)
structure ForcesOk (ps : List Pin) (bs : List LBar) (pu : Nat → Num) (qu : Nat → List Num) (M : Nat) : Prop where
  g : PinsGd ps
  pl : ps.length ≤ 5
  bl : bs.length ≤ 8
  bi : ∀ b ∈ bs, b.2.1 < ps.length ∧ b.2.2 < ps.length ∧ b.2.1 ≠ b.2.2
  wl : ∀ p ∈ ps, p.ways.length ≤ 2
  pg : ∀ j, j < bs.length → Good M (pu j)
  ql : ∀ k, k < ps.length → (qu k).length = (ps.getD k nilPin).ways.length ∧ ∀ q ∈ qu k, Good M q
  m : M ≤ 3000000
def StB (ps : List Pin) (bs : List LBar) (pu : Nat → Num) (M j : Nat) (fs : List (Num × Num)) (k a : Nat) : Prop := Good (1 + j * (M + 130)) (cell fs k a) ∧ val (cell fs k a) = sumR j (cB ps bs pu k a)
def StW (ps : List Pin) (bs : List LBar) (pu : Nat → Num) (qu : Nat → List Num) (M c : Nat) (fs : List (Num × Num)) (k a : Nat) : Prop := Good (1 + bs.length * (M + 130) + c * (M + 65)) (cell fs k a) ∧ val (cell fs k a) = sumR bs.length (cB ps bs pu k a) + sumR c (cW ps qu k a)
theorem StB.more {ps : List Pin} {bs : List LBar} {pu : Nat → Num} {M j : Nat} {fs : List (Num × Num)} {k a : Nat} (h : StB ps bs pu M j fs k a) (e : cB ps bs pu k a j = 0) : StB ps bs pu M (j + 1) fs k a := by
  obtain ⟨h1, h2⟩ := h
  refine ⟨good_le h1 (by rw [Nat.add_mul]; omega), ?_⟩
  show _ = sumR j _ + cB ps bs pu k a j
  rw [e, h2]
  grind
/-- both ends of a bar are drawn -/
theorem bar_step {ps : List Pin} {bs : List LBar} {pu : Nat → Num} {qu : Nat → List Num} {M j a : Nat} {fs : List (Num × Num)} (ok : ForcesOk ps bs pu qu M) (hj : j < bs.length) (ha : a < 2) (hl : fs.length = ps.length)
    (h : ∀ k, k < ps.length → StB ps bs pu M j fs k a) (k : Nat) (hk : k < ps.length) :
    StB ps bs pu M (j + 1) (addAt (addAt fs (bs.getD j ("", 0, 0)).2.1 a (timesL (pu j) (armL ps (bs.getD j ("", 0, 0)) a))) (bs.getD j ("", 0, 0)).2.2 a (turnL (timesL (pu j) (armL ps (bs.getD j ("", 0, 0)) a)))) k a := by
  have hbm : bs.getD j ("", 0, 0) ∈ bs := getD_mem hj
  obtain ⟨b1, b2, b3⟩ := ok.bi _ hbm
  have gd := good_times (ok.pg j hj) (arm_gd ok.g b1 b2 a)
  have ga := arm_gd ok.g b1 b2 a
  have ed : val (timesL (pu j) (armL ps (bs.getD j ("", 0, 0)) a)) = val (pu j) * val (armL ps (bs.getD j ("", 0, 0)) a) := val_times (good_ne (ok.pg j hj)) (good_ne ga)
  have ec : cB ps bs pu k a j = (if (bs.getD j ("", 0, 0)).2.1 = k then val (pu j) * val (armL ps (bs.getD j ("", 0, 0)) a) else 0) + (if (bs.getD j ("", 0, 0)).2.2 = k then - (val (pu j) * val (armL ps (bs.getD j ("", 0, 0)) a)) else 0) := rfl
  revert b1 b2 b3 gd ed ec
  generalize timesL (pu j) (armL ps (bs.getD j ("", 0, 0)) a) = dr
  generalize (bs.getD j ("", 0, 0)).2.1 = one
  generalize (bs.getD j ("", 0, 0)).2.2 = oth
  generalize val (pu j) * val (armL ps (bs.getD j ("", 0, 0)) a) = x
  intro b1 b2 b3 gd ed ec
  obtain ⟨h1, h2⟩ := h k hk
  unfold StB
  rw [addAt_get (by rw [addAt_len, hl]; exact b2) ha ha, addAt_get (by rw [hl]; exact b1) ha ha, addAt_get (by rw [hl]; exact b1) ha ha]
  have es : sumR (j + 1) (cB ps bs pu k a) = sumR j (cB ps bs pu k a) + cB ps bs pu k a j := rfl
  rw [es, ec, ← h2]
  by_cases k1 : k = oth
  · subst k1
    have n1 : ¬ k = one := fun z => b3 z.symm
    simp only [n1, b3, and_true, if_true, if_false]
    refine ⟨good_le (good_sum h1 (good_turnL gd)) (by rw [Nat.add_mul]; omega), ?_⟩
    rw [val_sum (good_ne h1) (good_ne (good_turnL gd)), val_turnL, ed]
    grind
  · have n1 : ¬ oth = k := fun z => k1 z.symm
    by_cases k2 : k = one
    · subst k2
      simp only [k1, n1, and_true, if_true, if_false]
      refine ⟨good_le (good_sum h1 gd) (by rw [Nat.add_mul]; omega), ?_⟩
      rw [val_sum (good_ne h1) (good_ne gd), ed]
      grind
    · have n2 : ¬ one = k := fun z => k2 z.symm
      simp only [k1, n1, k2, n2, and_true, if_false]
      exact ⟨good_le h1 (by rw [Nat.add_mul]; omega), by grind⟩
theorem addAt_other {fs : List (Num × Num)} {k a k' a' : Nat} {d : Num} (hk : k < fs.length) (ha : a < 2) (ha' : a' < 2) (ne : ¬ (k' = k ∧ a' = a)) : cell (addAt fs k a d) k' a' = cell fs k' a' := by
  rw [addAt_get hk ha ha', if_neg ne]
theorem StB.congr {ps : List Pin} {bs : List LBar} {pu : Nat → Num} {M j : Nat} {fs fs' : List (Num × Num)} {k a : Nat} (h : StB ps bs pu M j fs k a) (e : cell fs' k a = cell fs k a) : StB ps bs pu M j fs' k a := by
  unfold StB
  rw [e]
  exact h
theorem StW.congr {ps : List Pin} {bs : List LBar} {pu : Nat → Num} {qu : Nat → List Num} {M c : Nat} {fs fs' : List (Num × Num)} {k a : Nat} (h : StW ps bs pu qu M c fs k a) (e : cell fs' k a = cell fs k a) : StW ps bs pu qu M c fs' k a := by
  unfold StW
  rw [e]
  exact h
theorem RunA.seq {S : Sys} {Hs H0 H1 H : Hp} {D : Addr} {ls : List Addr} {t u : TS} {G : Gam} {fs : List (Num × Num)} {P : Gam → List (Num × Num) → Prop} {σ : L2.St} {Ds : Ends} (h : RunA S Hs H0 D ls t G fs P) (st : Step Hs H0 H1 H) (E : EnvD S H1 σ G) (fa : FoundAt S H0 H1 H D ls fs)
    (q : ∀ G' fs' σ' H2 H', P G' fs' → Step Hs H0 H2 H' → Same H1 H2 → EnvD S H2 σ' G' → FoundAt S H0 H2 H' D ls fs' → u Ds σ' H') : tSeq t u Ds σ H := h σ H1 H { Ds with nx := u Ds } st E fa q
theorem RunA.use {S : Sys} {Hs H0 H1 H : Hp} {D : Addr} {ls : List Addr} {ts : TS} {G : Gam} {fs : List (Num × Num)} {P : Gam → List (Num × Num) → Prop} {σ : L2.St} {Ds : Ends} (h : RunA S Hs H0 D ls ts G fs P) (st : Step Hs H0 H1 H) (E : EnvD S H1 σ G) (fa : FoundAt S H0 H1 H D ls fs)
    (q : ∀ G' fs' σ' H2 H', P G' fs' → Step Hs H0 H2 H' → Same H1 H2 → EnvD S H2 σ' G' → FoundAt S H0 H2 H' D ls fs' → Ds.nx σ' H') : ts Ds σ H := h σ H1 H Ds st E fa q
section
variable {Pr : Program} {w : World} {K : PySem.W.Frag} {mg : Str → Option Value} {base : Heap}
structure FI where
  ps : List Pin
  bs : List LBar
  pu : Nat → Num
  qu : Nat → List Num
  M : Nat
def Pre_law_forces (j : FI) (ds : List Dat) : Prop := ds = [pinsT j.ps, barsT j.bs, .lst ((List.range j.bs.length).map fun i => num (j.pu i)), .lst ((List.range j.ps.length).map fun i => colD (j.qu i))] ∧ ForcesOk j.ps j.bs j.pu j.qu j.M
def Post_law_forces (K : PySem.W.Frag) (j : FI) (H1 H : Hp) (v : V) (H' : Hp) : Prop := ∃ H2 fs, Step H1 H H2 H' ∧ Dt (sysOf K) H2 v (foundD fs) ∧ fs.length = j.ps.length ∧ ∀ k, k < j.ps.length → ∀ a, a < 2 → Good 40000000 (cell fs k a) ∧ val (cell fs k a) = totF j.ps j.bs j.pu j.qu k a
theorem ok_law_forces (T : Txt K mg) (B : Bas Pr base) : FnOk Pr w K mg base CX0 42 (He.ga K "_law_forces") (fdAt K (He.ga K "_law_forces")) ["_law_pins_here", "_law_bars_here", "_law_pulls", "_law_pushes"] (spZ (sysOf K) Pre_law_forces (Post_law_forces K)) := by
  refine z_ok (S := sysOf K) (k := 41) T.F_law_forces sc_law_forces (fun j ds h => ?_) (fun cdv A outer s H E hr => ?_)
  · obtain ⟨rfl, _⟩ := h
    rfl
  · refine ⟨_, (pss_cons (ps_setLc (i := 4) (own := [("_law_pin", 9)]) (g := gName 9) (tt := tYes) rfl (sc_law_forces).nd rfl rfl (sw_true rfl rfl rfl (by decide +kernel)) (pi_list (pv 0)) (blkOk_by (N := ["_law_pins_here", "_law_bars_here", "_law_pulls", "_law_pushes", "_law_found", "_law_k", "_law_axis", "_law_draw", "_law_j", "_law_pin"]) (sc := defScope s_law_forces) (by decide +kernel)) (fun _ _ _ _ _ => pg_name (i := 9) (sc_law_forces).nd rfl (Or.inl rfl)) (fun _ _ _ _ _ => pts_nil) (fun _ _ _ _ _ => (pe_lst (pa_cons (pe_tup (pa_cons pe_int (pa_cons pe_int pa_nil))) (pa_cons (pe_tup (pa_cons pe_int (pa_cons pe_int pa_nil))) pa_nil))))) (pss_cons (ps_for PassesOwn.never rfl (pi_range1 rfl T.n_range (pa_cons (pe_callB call_len_seq (by rfl) T.n_len (by decide +kernel) (pa_cons (pv 1) pa_nil)) pa_nil)) (pg_name (i := 5) (sc_law_forces).nd rfl (Or.inl rfl)) (pss_one (ps_for PassesOwn.never rfl (pi_range1 rfl T.n_range (pa_cons pe_int pa_nil)) (pg_name (i := 6) (sc_law_forces).nd rfl (Or.inl rfl)) (pss_cons (ps_set (i := 7) (sc_law_forces).nd rfl (Or.inl rfl) (pe_call (ok_law_times T B) (hr.mono (by decide)) rfl T.g_law_times T.F_law_times.kp T.b_law_times .nil pass0 (pa_cons (pe_ix ix_list (pv 2) (pv 5) (fun _ _ => rfl)) (pa_cons (pe_call (ok_law_arm T B) (hr.mono (by decide)) rfl T.g_law_arm T.F_law_arm.kp T.b_law_arm .nil pass0 (pa_cons (pv 0) (pa_cons (pe_ix ix_list (pv 1) (pv 5) (fun _ _ => rfl)) (pa_cons (pv 6) pa_nil)))) pa_nil)))) (pss_cons (ps_expr (pe_call (ok_law_add T B) (hr.mono (by decide)) rfl T.g_law_add T.F_law_add.kp T.b_law_add .nil pass0 (pa_cons (pv 4) (pa_cons (pe_ix ix_tup (pe_ix ix_list (pv 1) (pv 5) (fun _ _ => rfl)) pe_int (fun _ _ => rfl)) (pa_cons (pv 6) (pa_cons (pv 7) pa_nil)))))) (pss_one (ps_expr (pe_call (ok_law_add T B) (hr.mono (by decide)) rfl T.g_law_add T.F_law_add.kp T.b_law_add .nil pass0 (pa_cons (pv 4) (pa_cons (pe_ix ix_tup (pe_ix ix_list (pv 1) (pv 5) (fun _ _ => rfl)) pe_int (fun _ _ => rfl)) (pa_cons (pv 6) (pa_cons (pe_call (ok_law_turned T B) (hr.mono (by decide)) rfl T.g_law_turned T.F_law_turned.kp T.b_law_turned .nil pass0 (pa_cons (pv 7) pa_nil)) pa_nil)))))))))))) (pss_cons (ps_for PassesOwn.never rfl (pi_range1 rfl T.n_range (pa_cons (pe_callB call_len_seq (by rfl) T.n_len (by decide +kernel) (pa_cons (pv 0) pa_nil)) pa_nil)) (pg_name (i := 5) (sc_law_forces).nd rfl (Or.inl rfl)) (pss_one (ps_for PassesOwn.never rfl (pi_range1 rfl T.n_range (pa_cons (pe_callB call_len_seq (by rfl) T.n_len (by decide +kernel) (pa_cons (pe_ix ix_tup (pe_ix ix_list (pv 0) (pv 5) (fun _ _ => rfl)) pe_int (fun _ _ => rfl)) pa_nil)) pa_nil)) (pg_name (i := 8) (sc_law_forces).nd rfl (Or.inl rfl)) (pss_one (ps_for PassesOwn.never rfl (pi_range1 rfl T.n_range (pa_cons pe_int pa_nil)) (pg_name (i := 6) (sc_law_forces).nd rfl (Or.inl rfl)) (pss_one (ps_expr (pe_call (ok_law_add T B) (hr.mono (by decide)) rfl T.g_law_add T.F_law_add.kp T.b_law_add .nil pass0 (pa_cons (pv 4) (pa_cons (pv 5) (pa_cons (pv 6) (pa_cons (pe_call (ok_law_times T B) (hr.mono (by decide)) rfl T.g_law_times T.F_law_times.kp T.b_law_times .nil pass0 (pa_cons (pe_ix ix_list (pe_ix ix_list (pv 3) (pv 5) (fun _ _ => rfl)) (pv 8) (fun _ _ => rfl)) (pa_cons (pe_ix ix_tup (pe_ix ix_list (pe_ix ix_tup (pe_ix ix_list (pv 0) (pv 5) (fun _ _ => rfl)) pe_int (fun _ _ => rfl)) (pv 8) (fun _ _ => rfl)) (pv 6) (fun _ _ => rfl)) pa_nil))) pa_nil)))))))))))) (pss_one (ps_ret (pv 4)))))), fun ⟨ps, bs, pu, qu, M⟩ ds h => ?_⟩
    obtain ⟨rfl, ok⟩ := h
    dsimp only at ok ⊢
    intro σ H1 H Ds e E1 q _
    have hM := ok.m
    have hbl := ok.bl
    have hpl := ok.pl
    obtain ⟨v0, hv0, dv0⟩ := E1.at_ 0 (pinsT ps) rfl
    cases dv0 with
    | @lst la xs _ hla hA =>
      have hxl : xs.length = ps.length := by rw [hA.length, List.length_map]
      refine raw_set ⟨_, hv0, la, rfl, ⟨xs, SqL.of (e _ _ hla)⟩, fun D hD => ?_⟩
      have hD1 := e.free hD
      refine lc_list (K := K) (a := la) (xs := xs) (fun k H3 => ∃ H4 ls, Step H1 H H4 H3 ∧ FoundAt (sysOf K) H H4 H3 D ls (List.replicate k z2)) ⟨H1, [], ⟨Same.refl _, same_mut e hD1, same_new hD, fun _ _ h => .inl h⟩, ⟨List.nodup_cons.mpr ⟨by simp, List.nodup_nil⟩, fun a ha => by rw [List.mem_singleton.mp ha]; exact ⟨hD, hD1⟩, upd_same, rfl, fun i a qq h1 => by simp at h1⟩⟩ (fun k H3 _ ⟨H4, ls, st, _⟩ => SqL.of (st.s2 _ _ (st.s1 _ _ hla))) ?_ ?_
      · rintro k x H3 hx ⟨H4, ls, st, fa⟩
        have hkx := (List.getElem?_eq_some_iff.mp hx).1
        refine ⟨wipe_set.trans wipe_set, ?_⟩
        unfold tYes
        dsimp only
        rw [if_pos rfl]
        refine ⟨Nat.le_of_ble_eq_true rfl, fun p1 hp1 => ⟨Nat.le_of_ble_eq_true rfl, fun p2 hp2 => ⟨Nat.le_of_ble_eq_true rfl, fun l hl => ?_⟩⟩⟩
        have s1 := Step.new (o := .tup [V.int 0, V.int 1]) st.s2 hp1
        have s2 := Step.new (o := .tup [V.int 0, V.int 1]) s1.s2 hp2
        have fa2 := (fa.step s1).step s2
        have st2 := (st.trans s1).trans s2
        have hDl : D ≠ l := fun z => by
          obtain ⟨ll, hll⟩ := fa2.has D List.mem_cons_self
          rw [z, hl] at hll
          cases hll
        have hlsl : ∀ b ∈ D :: ls, b ≠ l := fun b hb z => by
          obtain ⟨ll, hll⟩ := fa2.has b hb
          rw [z, hl] at hll
          cases hll
        have hl4 := st2.s2.free hl
        have hlH := st2.s3.free hl
        refine ⟨ls.map .ref, by rw [upd_ne hDl]; exact fa2.dl, by rw [List.length_map, fa2.len, List.length_replicate, sizeLine_eq]; omega, _, ls ++ [l], ⟨st2.s1, same_mut (same_mut st2.s2 hl4) (fa2.fr D List.mem_cons_self).2, same_mut (same_mut st2.s3 hlH) (fa2.fr D List.mem_cons_self).1, st2.fr⟩, ?_, fun b hb => ?_, ?_, ?_, fun i b qq h1 h2 => ?_⟩
        · rw [← List.cons_append]
          refine List.nodup_append.mpr ⟨fa2.nd, List.nodup_cons.mpr ⟨by simp, List.nodup_nil⟩, fun b hb c hc => ?_⟩
          rw [List.mem_singleton.mp hc]
          exact hlsl b hb
        · rw [← List.cons_append] at hb
          rcases List.mem_append.mp hb with hb | hb
          · exact fa2.fr b hb
          · rw [List.mem_singleton.mp hb]
            exact ⟨hlH, hl4⟩
        · rw [upd_same, List.map_append]
          rfl
        · rw [List.length_append, fa2.len, List.length_replicate, List.length_replicate]
          rfl
        · have hqq : qq = z2 := List.eq_of_mem_replicate (get_mem h2)
          subst hqq
          by_cases hi : i < ls.length
          · rw [List.getElem?_append_left hi] at h1
            obtain ⟨v0, v1, h, d0, d1⟩ := fa2.it i b z2 h1 (by rw [List.getElem?_replicate, if_pos (by have := fa2.len; rw [List.length_replicate] at this; omega)])
            have hb := List.mem_cons_of_mem D (get_mem h1)
            have hbD : b ≠ D := fun z => (List.nodup_cons.mp fa2.nd).1 (by rw [← z]; exact get_mem h1)
            exact ⟨v0, v1, by rw [upd_ne hbD, upd_ne (hlsl b hb)]; exact h, d0, d1⟩
          · have hil := (List.getElem?_eq_some_iff.mp h1).1
            rw [List.length_append, List.length_singleton] at hil
            have hie : i = ls.length := by omega
            subst hie
            rw [List.getElem?_append_right (Nat.le_refl _), Nat.sub_self] at h1
            have h1 : l = b := Option.some.inj h1
            subst h1
            exact ⟨.ref p1, .ref p2, by rw [upd_ne (Ne.symm hDl), upd_same], .tup (SqT.of (s2.s1 _ _ upd_same)) (.cons (.int _) (.cons (.int _) .nil)), .tup (SqT.of upd_same) (.cons (.int _) (.cons (.int _) .nil))⟩
      · rintro H3 ⟨H4, ls, st, fa⟩
        rw [hxl] at fa
        have E4 : EnvD (sysOf K) H4 (σ.set 4 (some (.ref D))) [some (pinsT ps), some (barsT bs), some (.lst ((List.range bs.length).map fun i => num (pu i))), some (.lst ((List.range ps.length).map fun i => colD (qu i))), some (.ptr D), none, none, none, none, none] := (E1.mono st.s1).set (i := 4) (.ptr D)
        have hz : ∀ k a, cell (List.replicate ps.length z2) k a = (0, 1) := fun k a => by
          unfold cell
          rw [List.getD_eq_getElem?_getD, List.getElem?_replicate]
          split <;> (show coordW z2 a = _; unfold coordW z2; split <;> rfl)
        have gb : ∀ j, j < bs.length → bs.getD j ("", 0, 0) ∈ bs := fun j hj => getD_mem hj
        refine (RunA.seq (ra_for_range (i := 5) (n := bs.length) (ed_lenB (ed_var (i := 1) rfl)) (by omega) (fun j G fs => (∃ x5 x6 x7 x8 x9, G = [some (pinsT ps), some (barsT bs), some (.lst ((List.range bs.length).map fun i => num (pu i))), some (.lst ((List.range ps.length).map fun i => colD (qu i))), some (.ptr D), x5, x6, x7, x8, x9]) ∧ fs.length = ps.length ∧ ∀ k, k < ps.length → ∀ a, a < 2 → StB ps bs pu M j fs k a)
          ⟨⟨_, _, _, _, _, rfl⟩, List.length_replicate, fun k hk a ha => ⟨by rw [hz]; exact ⟨sz_nought.le (by omega), by decide⟩, by rw [hz]; show _ = (0 : Rat); unfold val; grind⟩⟩ ?_ (fun G fs h => h)) st E4 fa fun G1 fs1 σ1 H5 H5' hP st5 s5 E5 fa5 => ?_)
        · rintro j G fs hj ⟨⟨x5, x6, x7, x8, x9, rfl⟩, hl, hst⟩
          obtain ⟨b1, b2, b3⟩ := ok.bi _ (gb j hj)
          have gpj := ok.pg j hj
          refine ra_for_range (i := 6) (n := 2) ed_int (by decide) (fun ax G fs => (∃ x6 x7, G = [some (pinsT ps), some (barsT bs), some (.lst ((List.range bs.length).map fun i => num (pu i))), some (.lst ((List.range ps.length).map fun i => colD (qu i))), some (.ptr D), some (.int (j : Int)), x6, x7, x8, x9]) ∧ fs.length = ps.length ∧ ∀ k, k < ps.length → ∀ a, a < 2 → StB ps bs pu M (if a < ax then j + 1 else j) fs k a) ⟨⟨_, _, rfl⟩, hl, fun k hk a ha => by rw [if_neg (by omega)]; exact hst k hk a ha⟩ ?_ ?_
          · rintro ax G fs hax ⟨⟨x6, x7, rfl⟩, hl, hst⟩
            have hstx : ∀ k, k < ps.length → StB ps bs pu M j fs k ax := fun k hk => by
              have := hst k hk ax hax
              rwa [if_neg (by omega)] at this
            have ga := arm_gd ok.g b1 b2 ax
            have gd := good_times gpj ga
            have hb24 : 1 + j * (M + 130) ≤ 30000000 := by
              have : j * (M + 130) ≤ 8 * 3000130 := Nat.mul_le_mul (by omega) (by omega)
              omega
            have ebar : ∀ {G : Gam}, G[1]? = some (some (barsT bs)) → G[5]? = some (some (.int (j : Int))) → EvD (sysOf K) (tOp (rIxL K) (tVar 1) (tVar 5)) G (barT (bs.getD j ("", 0, 0))) := fun g1 g5 => ed_op (ed_var g1) (ed_var g5) (rv_ixL (at_ofD rfl (by rw [List.getElem?_map, List.getD_eq_getElem?_getD, List.getElem?_eq_getElem hj]; rfl)))
            refine ra_seq (ra_set (d := num (timesL (pu j) (armL ps (bs.getD j ("", 0, 0)) ax))) (ed_call (ea_cons (ed_op (ed_var (i := 2) rfl) (ed_var (i := 5) rfl) (rv_ixL (z := num (pu j)) (at_ofD rfl (by rw [List.getElem?_map, List.getElem?_range hj]; rfl)))) (ea_cons (ed_call (ea_cons (ed_var (i := 0) rfl) (ea_cons (ebar rfl rfl) (ea_cons (ed_var (i := 6) rfl) ea_nil))) ⟨ps, _, ax, rfl, hax, b1, b2, ok.g, rfl⟩) ea_nil)) ⟨_, _, M, 129, rfl, gpj.1, ga.1, by omega, rfl⟩) ?_)
            refine ra_seq (ra_add (i := 4) (k := (bs.getD j ("", 0, 0)).2.1) (a := ax) rfl (ed_op (ebar rfl rfl) ed_int (rv_ixT (ds := [.str _, .int _, .int _]) rfl)) (ed_var (i := 6) rfl) (ed_var (i := 7) rfl) (by rw [hl]; exact b1) hax (hstx _ b1).1.1 gd.1 (by omega) ?_)
            refine ra_add (i := 4) (k := (bs.getD j ("", 0, 0)).2.2) (a := ax) rfl (ed_op (ebar rfl rfl) ed_int (rv_ixT (ds := [.str _, .int _, .int _]) rfl)) (ed_var (i := 6) rfl) (ed_call (ea_cons (ed_var (i := 7) rfl) ea_nil) ⟨_, rfl, rfl⟩) (by rw [addAt_len, hl]; exact b2) hax (n := 1 + j * (M + 130)) (by rw [addAt_other (by rw [hl]; exact b1) hax hax (fun z => b3 z.1.symm)]; exact (hstx _ b2).1.1) (good_turnL gd).1 (by omega) ⟨⟨_, _, rfl⟩, by rw [addAt_len, addAt_len, hl], fun k hk a ha => ?_⟩
            by_cases hae : a = ax
            · subst hae
              rw [if_pos (by omega)]
              exact bar_step ok hj ha hl hstx k hk
            · have hs := hst k hk a ha
              have ei : (if a < ax + 1 then j + 1 else j) = (if a < ax then j + 1 else j) := by
                by_cases z : a < ax
                · rw [if_pos z, if_pos (by omega)]
                · rw [if_neg z, if_neg (by omega)]
              rw [ei]
              refine hs.congr ?_
              rw [addAt_other (by rw [addAt_len, hl]; exact b2) hax ha (fun z => hae z.2), addAt_other (by rw [hl]; exact b1) hax ha (fun z => hae z.2)]
          · rintro G fs ⟨⟨x6, x7, rfl⟩, hl, hst⟩
            exact ⟨⟨_, _, _, _, _, rfl⟩, hl, fun k hk a ha => by
              have := hst k hk a ha
              rwa [if_pos ha] at this⟩
        · obtain ⟨⟨x5, x6, x7, x8, x9, rfl⟩, hl1, hst1⟩ := hP
          have hB24 : 1 + bs.length * (M + 130) ≤ 30000000 := by
            have : bs.length * (M + 130) ≤ 8 * 3000130 := Nat.mul_le_mul (by omega) (by omega)
            omega
          refine (RunA.seq (ra_for_range (i := 5) (n := ps.length) (ed_lenP (ed_var (i := 0) rfl)) (by omega) (fun i G fs => (∃ x5 x6 x7 x8 x9, G = [some (pinsT ps), some (barsT bs), some (.lst ((List.range bs.length).map fun i => num (pu i))), some (.lst ((List.range ps.length).map fun i => colD (qu i))), some (.ptr D), x5, x6, x7, x8, x9]) ∧ fs.length = ps.length ∧ ∀ k, k < ps.length → ∀ a, a < 2 → StW ps bs pu qu M (if k < i then (ps.getD k nilPin).ways.length else 0) fs k a)
            ⟨⟨_, _, _, _, _, rfl⟩, hl1, fun k hk a ha => by
              rw [if_neg (by omega)]
              obtain ⟨h1, h2⟩ := hst1 k hk a ha
              exact ⟨good_le h1 (by omega), by rw [h2]; show _ = _ + (0 : Rat); grind⟩⟩ ?_ (fun G fs h => h)) st5 E5 fa5 fun G2 fs2 σ2 H6 H6' hP st6 s6 E6 fa6 => ?_)
          · rintro i G fs hi ⟨⟨x5, x6, x7, x8, x9, rfl⟩, hl, hst⟩
            have hpm : ps.getD i nilPin ∈ ps := getD_mem hi
            have hwl := ok.wl _ hpm
            obtain ⟨hq1, hq2⟩ := ok.ql i hi
            obtain ⟨_, _, gw⟩ := ok.g _ hpm
            have epin : ∀ {G : Gam}, G[0]? = some (some (pinsT ps)) → G[5]? = some (some (.int (i : Int))) → EvD (sysOf K) (tOp (rIxT K) (tOp (rIxL K) (tVar 0) (tVar 5)) (tC (.int 2))) G (waysD (ps.getD i nilPin).ways) := fun g0 g5 => ed_op (ed_op (ed_var g0) (ed_var g5) (rv_ixL (pin_at hi rfl))) ed_int (rv_ixT (ds := [.str _, spotD _, waysD _]) rfl)
            refine ra_for_range (i := 8) (n := (ps.getD i nilPin).ways.length) ((ed_cb (ea_cons (epin rfl rfl) ea_nil) (rc_lenL (ds := (ps.getD i nilPin).ways.map way))).to (by rw [List.length_map])) (by omega) (fun j G fs => (∃ x6 x7 x8, G = [some (pinsT ps), some (barsT bs), some (.lst ((List.range bs.length).map fun i => num (pu i))), some (.lst ((List.range ps.length).map fun i => colD (qu i))), some (.ptr D), some (.int (i : Int)), x6, x7, x8, x9]) ∧ fs.length = ps.length ∧ ∀ k, k < ps.length → ∀ a, a < 2 → StW ps bs pu qu M (if k < i then (ps.getD k nilPin).ways.length else if k = i then j else 0) fs k a)
              ⟨⟨_, _, _, rfl⟩, hl, fun k hk a ha => by
                have := hst k hk a ha
                by_cases z : k < i
                · rw [if_pos z] at this ⊢
                  exact this
                · rw [if_neg z] at this ⊢
                  split <;> exact this⟩ ?_ ?_
            · rintro j G fs hj ⟨⟨x6, x7, x8, rfl⟩, hl, hst⟩
              have hwm : (ps.getD i nilPin).ways.getD j z2 ∈ (ps.getD i nilPin).ways := getD_mem hj
              obtain ⟨gw1, gw2⟩ := gw _ hwm
              have gq : Good M ((qu i).getD j (0, 1)) := hq2 _ (getD_mem (by omega))
              refine ra_for_range (i := 6) (n := 2) ed_int (by decide) (fun ax G fs => (∃ x6 x7, G = [some (pinsT ps), some (barsT bs), some (.lst ((List.range bs.length).map fun i => num (pu i))), some (.lst ((List.range ps.length).map fun i => colD (qu i))), some (.ptr D), some (.int (i : Int)), x6, x7, some (.int (j : Int)), x9]) ∧ fs.length = ps.length ∧ ∀ k, k < ps.length → ∀ a, a < 2 → StW ps bs pu qu M (if k < i then (ps.getD k nilPin).ways.length else if k = i then (if a < ax then j + 1 else j) else 0) fs k a)
                ⟨⟨_, _, rfl⟩, hl, fun k hk a ha => by
                  have := hst k hk a ha
                  rw [if_neg (by omega : ¬ a < 0)]
                  exact this⟩ ?_ ?_
              · rintro ax G fs hax ⟨⟨x6, x7, rfl⟩, hl, hst⟩
                have hcur : StW ps bs pu qu M j fs i ax := by
                  have := hst i hi ax hax
                  rwa [if_neg (by omega), if_pos rfl, if_neg (by omega)] at this
                have gc : Good 64 (coordW (wayAt ps i j) ax) := by
                  unfold coordW wayAt
                  split
                  · exact gw1
                  · exact gw2
                have gd := good_times gq gc
                have hj2 : j * (M + 65) ≤ 2 * 3000065 := Nat.mul_le_mul (by omega) (by omega)
                refine ra_add (i := 4) (k := i) (a := ax) rfl (ed_var (i := 5) rfl) (ed_var (i := 6) rfl) (ed_call (ea_cons (ed_op (ed_op (ed_var (i := 3) rfl) (ed_var (i := 5) rfl) (rv_ixL (z := colD (qu i)) (at_ofD rfl (by rw [List.getElem?_map, List.getElem?_range hi]; rfl)))) (ed_var (i := 8) rfl) (rv_ixL (num_at (by omega) rfl))) (ea_cons (ed_op (ed_op (epin rfl rfl) (ed_var (i := 8) rfl) (rv_ixL (z := way (wayAt ps i j)) (at_ofD rfl (by unfold wayAt; rw [List.getElem?_map, List.getD_eq_getElem?_getD (l := (ps.getD i nilPin).ways), List.getElem?_eq_getElem hj]; rfl)))) (ed_var (i := 6) rfl) (rv_ixT (ds := [num _, num _]) (at_ofD rfl (coord_at hax)))) ea_nil)) ⟨_, _, M, 64, rfl, gq.1, gc.1, by omega, rfl⟩) (by rw [hl]; exact hi) hax hcur.1.1 gd.1 (by omega) ⟨⟨_, _, rfl⟩, by rw [addAt_len, hl], fun k hk a ha => ?_⟩
                by_cases hke : k = i ∧ a = ax
                · obtain ⟨rfl, rfl⟩ := hke
                  rw [if_neg (by omega), if_pos rfl, if_pos (by omega)]
                  obtain ⟨c1, c2⟩ := hcur
                  have ec : cell (addAt fs k a (timesL ((qu k).getD j (0, 1)) (coordW (wayAt ps k j) a))) k a = sumL (cell fs k a) (timesL ((qu k).getD j (0, 1)) (coordW (wayAt ps k j) a)) := by rw [addAt_get (by rw [hl]; exact hi) hax hax, if_pos ⟨rfl, rfl⟩]
                  unfold StW
                  rw [ec]
                  refine ⟨good_le (good_sum c1 gd) (by rw [Nat.add_mul]; omega), ?_⟩
                  rw [val_sum (good_ne c1) (good_ne gd), val_times (good_ne gq) (good_ne gc), c2]
                  show _ = _ + (sumR j (cW ps qu k a) + cW ps qu k a j)
                  unfold cW
                  grind
                · have hs := hst k hk a ha
                  have ei : (if k < i then (ps.getD k nilPin).ways.length else if k = i then (if a < ax + 1 then j + 1 else j) else 0) = (if k < i then (ps.getD k nilPin).ways.length else if k = i then (if a < ax then j + 1 else j) else 0) := by
                    by_cases z1 : k < i
                    · rw [if_pos z1, if_pos z1]
                    · rw [if_neg z1, if_neg z1]
                      by_cases z2 : k = i
                      · have : a ≠ ax := fun z => hke ⟨z2, z⟩
                        rw [if_pos z2, if_pos z2]
                        by_cases z3 : a < ax
                        · rw [if_pos z3, if_pos (by omega)]
                        · rw [if_neg z3, if_neg (by omega)]
                      · rw [if_neg z2, if_neg z2]
                  rw [ei]
                  exact hs.congr (addAt_other (by rw [hl]; exact hi) hax ha hke)
              · rintro G fs ⟨⟨x6, x7, rfl⟩, hl, hst⟩
                refine ⟨⟨_, _, _, rfl⟩, hl, fun k hk a ha => ?_⟩
                have := hst k hk a ha
                rwa [if_pos ha] at this
            · rintro G fs ⟨⟨x6, x7, x8, rfl⟩, hl, hst⟩
              refine ⟨⟨_, _, _, _, _, rfl⟩, hl, fun k hk a ha => ?_⟩
              have := hst k hk a ha
              by_cases z1 : k < i
              · rw [if_pos z1] at this
                rw [if_pos (by omega)]
                exact this
              · rw [if_neg z1] at this
                by_cases z2 : k = i
                · rw [if_pos z2] at this
                  rw [if_pos (by omega), z2]
                  rw [z2] at this
                  exact this
                · rw [if_neg z2] at this
                  rw [if_neg (by omega)]
                  exact this
          · obtain ⟨⟨x5, x6, x7, x8, x9, rfl⟩, hl2, hst2⟩ := hP
            obtain ⟨v4, hv4, hd4⟩ := E6.at_ 4 (.ptr D) rfl
            cases hd4
            obtain ⟨w1, w2, w3⟩ := fa6.dt st6.s2
            refine ⟨_, hv4, q _ _ ⟨withL H6 H6' (D :: ls), fs2, ⟨st6.s1.trans w1, w2, st6.s3, fun b o hb => ?_⟩, w3, hl2, fun k hk a ha => ?_⟩⟩
            · by_cases m : b ∈ D :: ls
              · exact .inr (fa6.fr b m).1
              · rw [with_out m] at hb
                exact st6.fr b o hb
            · obtain ⟨h1, h2⟩ := hst2 k hk a ha
              rw [if_pos hk] at h1 h2
              have hw := ok.wl _ (getD_mem (a := nilPin) hk)
              have : (ps.getD k nilPin).ways.length * (M + 65) ≤ 2 * 3000065 := Nat.mul_le_mul hw (by omega)
              exact ⟨good_le h1 (by omega), h2⟩
end
end Ty
set_option Elab.async false
set_option linter.all false
set_option maxRecDepth 100000
set_option maxHeartbeats 8000000
/-! _law_are_forces, _law_at_rest, _law_right. -/
namespace Ty
open PySem PySem.Spec PyProof.Rows L2
theorem rd_of_rz {S : Sys} {t : TS} {G : Gam} {d : Dat} {P : Out → Prop} (h : RunZ S t G (fun H1 H v H' => ∃ H2, Step H1 H H2 H' ∧ Dt S H2 v d)) (p : P (.rt d)) : RunD S t G P := fun σ H1 H Ds e E f => h σ H1 H Ds e E fun v H' ⟨H2, s, dv⟩ => f.rt d p H2 H' v s dv
theorem ret_stable {S : Sys} {d : Dat} : Stable (fun H1 H v H' => ∃ H2, Step H1 H H2 H' ∧ Dt S H2 v d) := fun H1 H Ha Hb v H' s ⟨H2, s2, dv⟩ => ⟨H2, s.trans s2, dv⟩
theorem rz_callZn {S : Sys} {ι : Type} {Pre : ι → List Dat → Prop} {Post : ι → Hp → Hp → V → Hp → Prop} {E0 : XK} {ta : TA} {ds : List Dat} {i : Nat} {u : TS} {G : Gam} {R : Hp → Hp → V → Hp → Prop} (j : ι) (ha : EvA S ta G ds) (hp : Pre j ds)
    (h : ∀ σ Hs H0 H1 H v H', Step Hs H0 H1 H → EnvD S H1 σ G → Post j H1 H v H' → ∀ Ds : Ends, (∀ v H', R Hs H0 v H' → Ds.rt v H') → u Ds (σ.set i (some v)) H') :
    RunZ S (tSeq (tAsg (tCall (spZ S Pre Post) [] E0 ta) (gName i)) u) G R := rz_callZ j ha hp h
/-- what the law asks of the forces told -/
structure PulOk (ps : List Pin) (bs : List LBar) (pk qk : List (Key × Dat)) (pu : Nat → Num) (qu : Nat → List Num) : Prop where
  pks : pk.map (·.1) = bs.map (fun b => (Sum.inr b.1 : Key))
  qks : qk.map (·.1) = ps.map (fun p => (Sum.inr p.name : Key))
  pv : ∀ i b, bs[i]? = some b → valD pk (.inr b.1) = some (num (pu i))
  qv : ∀ i, i < ps.length → valD qk (.inr (nameAt ps i)) = some (colD (qu i))
  pl : ∀ i, i < bs.length → Low (pu i)
  ql : ∀ i, i < ps.length → ∀ q ∈ qu i, Low q
  bn : ∀ b ∈ bs, PyData.strOk b.1 = true
  pn : ∀ p ∈ ps, PyData.strOk p.name = true
theorem keys_names {α : Type} {mk : List (Key × Dat)} {l : List α} (f : α → Str) (h : mk.map (·.1) = l.map (fun a => (Sum.inr (f a) : Key))) : mk.map (fun kv => keyD kv.1) = (l.map f).map Dat.str := by
  have : mk.map (fun kv => keyD kv.1) = (mk.map (·.1)).map keyD := by rw [List.map_map]; rfl
  rw [this, h, List.map_map, List.map_map]
  rfl
theorem all_true {n : Nat} : ((List.replicate n true).all id) = true := by
  induction n with
  | zero => rfl
  | succ n ih => rw [List.replicate_succ, List.all_cons, ih]; rfl
section
variable {Pr : Program} {w : World} {K : PySem.W.Frag} {mg : Str → Option Value} {base : Heap}
def R_law_are_forces (ds : List Dat) (d : Dat) : Prop := ∃ (ps : List Pin) (bs : List LBar) (pk qk : List (Key × Dat)) (pu : Nat → Num) (qu : Nat → List Num) (M : Nat), ds = [pinsT ps, barsT bs, .dK pk, .dK qk] ∧ PulOk ps bs pk qk pu qu ∧ ForcesOk ps bs pu qu M ∧ d = .bl true
theorem ok_law_are_forces (T : Txt K mg) (B : Bas Pr base) : FnOk Pr w K mg base CX0 42 (He.ga K "_law_are_forces") (fdAt K (He.ga K "_law_are_forces")) ["_law_pins_here", "_law_bars_here", "_law_pulls", "_law_pushes"] (spF (sysOf K) R_law_are_forces) := by
  refine pure_ok (S := sysOf K) (k := 41) T.F_law_are_forces sc_law_are_forces (fun ds d h => ?_) (fun cdv A outer s H E hr => ?_)
  · obtain ⟨ps, bs, pk, qk, pu, qu, M, rfl, _⟩ := h
    rfl
  · refine ⟨_, (pss_cons (ps_if (PW.pt (pw_or (pt_not (pt_val (pe_callB call_isi (by rfl) T.n_isinstance (by decide +kernel) (pa_cons (pv 2) (pa_cons (pe_bltn (v := .ty "dict") (u := .type "dict") rfl T.n_dict (by decide +kernel) rfl) pa_nil))))) (pw_or1 (pt_cmpR (op_neD hr.units) (pe_callTy (call_list_dK rfl) (by rfl) T.n_list (by decide +kernel) (pa_cons (pv 2) pa_nil)) (pe_lc (own := [("_law_bar", 7)]) (g := gName 7) (tt := tYes) rfl (sc_law_are_forces).nd (pi_list (pv 1)) (blkOk_by (N := ["_law_pins_here", "_law_bars_here", "_law_pulls", "_law_pushes", "_law_name_here", "_law_spot_here", "_law_ways_here", "_law_bar", "_law_pin", "_law_one"]) (sc := defScope s_law_are_forces) (by decide +kernel)) (fun _ _ _ _ _ => pg_name (i := 7) (sc_law_are_forces).nd rfl (Or.inl rfl)) (fun _ _ _ _ _ => pts_nil) (fun _ _ _ _ _ => (pe_ix (ix_tupK K) (pv 7) pe_int (fun _ _ => rfl)))) (nomark _))))) (pss_one (ps_ret pe_bl)) pss_nil) (pss_cons (ps_if (PW.pt (pw_or (pt_not (pt_val (pe_callB call_isi (by rfl) T.n_isinstance (by decide +kernel) (pa_cons (pv 3) (pa_cons (pe_bltn (v := .ty "dict") (u := .type "dict") rfl T.n_dict (by decide +kernel) rfl) pa_nil))))) (pw_or1 (pt_cmpR (op_neD hr.units) (pe_callTy (call_list_dK rfl) (by rfl) T.n_list (by decide +kernel) (pa_cons (pv 3) pa_nil)) (pe_lc (own := [("_law_pin", 8)]) (g := gName 8) (tt := tYes) rfl (sc_law_are_forces).nd (pi_list (pv 0)) (blkOk_by (N := ["_law_pins_here", "_law_bars_here", "_law_pulls", "_law_pushes", "_law_name_here", "_law_spot_here", "_law_ways_here", "_law_bar", "_law_pin", "_law_one"]) (sc := defScope s_law_are_forces) (by decide +kernel)) (fun _ _ _ _ _ => pg_name (i := 8) (sc_law_are_forces).nd rfl (Or.inl rfl)) (fun _ _ _ _ _ => pts_nil) (fun _ _ _ _ _ => (pe_ix (ix_tupK K) (pv 8) pe_int (fun _ _ => rfl)))) (nomark _))))) (pss_one (ps_ret pe_bl)) pss_nil) (pss_cons (ps_if (pt_not (pt_val (pe_callB (cr_all rfl) (by rfl) T.n_all (by decide +kernel) (pa_cons (pe_lc (own := [("_law_bar", 7)]) (g := gName 7) (tt := tYes) rfl (sc_law_are_forces).nd (pi_list (pv 1)) (blkOk_by (N := ["_law_pins_here", "_law_bars_here", "_law_pulls", "_law_pushes", "_law_name_here", "_law_spot_here", "_law_ways_here", "_law_bar", "_law_pin", "_law_one"]) (sc := defScope s_law_are_forces) (by decide +kernel)) (fun _ _ _ _ _ => pg_name (i := 7) (sc_law_are_forces).nd rfl (Or.inl rfl)) (fun _ _ _ _ _ => pts_nil) (fun _ _ _ _ _ => (pe_call (ok_law_number T B) (hr.mono (by decide)) rfl T.g_law_number T.F_law_number.kp T.b_law_number .nil pass0 (pa_cons (pe_dget (hu_of hr) (pv 2) (pe_ix (ix_tupK K) (pv 7) pe_int (fun _ _ => rfl)) (fun _ _ => rfl)) pa_nil)))) pa_nil)))) (pss_one (ps_ret pe_bl)) pss_nil) (pss_cons (ps_for PassesOwn.never rfl (pi_list (pv 0)) (pg_tup rfl (pgs_cons (pg_name (i := 4) (sc_law_are_forces).nd rfl (Or.inl rfl)) (pgs_cons (pg_name (i := 5) (sc_law_are_forces).nd rfl (Or.inl rfl)) (pgs_cons (pg_name (i := 6) (sc_law_are_forces).nd rfl (Or.inl rfl)) pgs_nil)))) (pss_cons (ps_if (PW.pt (pw_or (pt_not (pt_val (pe_callB call_isi (by rfl) T.n_isinstance (by decide +kernel) (pa_cons (pe_dget (hu_of hr) (pv 3) (pv 4) (fun _ _ => rfl)) (pa_cons (pe_bltn (v := .ty "list") (u := .type "list") rfl T.n_list (by decide +kernel) rfl) pa_nil))))) (pw_or1 (pt_cmpR op_ne (pe_callB call_len_seq (by rfl) T.n_len (by decide +kernel) (pa_cons (pe_dget (hu_of hr) (pv 3) (pv 4) (fun _ _ => rfl)) pa_nil)) (pe_callB call_len_seq (by rfl) T.n_len (by decide +kernel) (pa_cons (pv 6) pa_nil)) (nomark _))))) (pss_one (ps_ret pe_bl)) pss_nil) (pss_one (ps_if (pt_not (pt_val (pe_callB (cr_all rfl) (by rfl) T.n_all (by decide +kernel) (pa_cons (pe_lc (own := [("_law_one", 9)]) (g := gName 9) (tt := tYes) rfl (sc_law_are_forces).nd (pi_list (pe_dget (hu_of hr) (pv 3) (pv 4) (fun _ _ => rfl))) (blkOk_by (N := ["_law_pins_here", "_law_bars_here", "_law_pulls", "_law_pushes", "_law_name_here", "_law_spot_here", "_law_ways_here", "_law_bar", "_law_pin", "_law_one"]) (sc := defScope s_law_are_forces) (by decide +kernel)) (fun _ _ _ _ _ => pg_name (i := 9) (sc_law_are_forces).nd rfl (Or.inl rfl)) (fun _ _ _ _ _ => pts_nil) (fun _ _ _ _ _ => (pe_call (ok_law_number T B) (hr.mono (by decide)) rfl T.g_law_number T.F_law_number.kp T.b_law_number .nil pass0 (pa_cons (pv 9) pa_nil)))) pa_nil)))) (pss_one (ps_ret pe_bl)) pss_nil)))) (pss_one (ps_ret pe_bl)))))), fun ds d h => ?_⟩
    obtain ⟨ps, bs, pk, qk, pu, qu, M, rfl, ok, fo, rfl⟩ := h
    have hpl := fo.pl
    have hbl := fo.bl
    have ekp := keys_names (fun b : LBar => b.1) ok.pks
    have ekq := keys_names Pin.name ok.qks
    have sb : ∀ x ∈ bs.map (fun b : LBar => b.1), PyData.strOk x = true := fun x hx => by
      obtain ⟨b, hb, rfl⟩ := List.mem_map.mp hx
      exact ok.bn b hb
    have sp : ∀ x ∈ ps.map Pin.name, PyData.strOk x = true := fun x hx => by
      obtain ⟨b, hb, rfl⟩ := List.mem_map.mp hx
      exact ok.pn b hb
    refine rd_seq (rd_if (b := false) (et_or (a := false) (et_not (a := true) (et_B (ed_cb (ea_cons (ed_var rfl) (ea_cons ed_ty ea_nil)) (rc_isi (n := "dict") (b := true) rfl)))) fun _ => et_test (ed_op (x := .lst ((bs.map fun b : LBar => b.1).map .str)) (y := .lst ((bs.map fun b : LBar => b.1).map .str)) ((ed_cb (ea_cons (ed_var rfl) ea_nil) rc_listD).to (by rw [ekp])) (ed_lc_list (ds := bs.map barT) (rs := (bs.map fun b : LBar => b.1).map .str) (ed_var rfl) (by simp) (by rw [List.length_map]; omega) fun k d r hd hr => ?_) (rv_neNames sb))) (fun h => by cases h) fun _ => rd_next ?_)
    · obtain ⟨p, hp, rfl⟩ := map_get hd
      obtain ⟨q, hq, rfl⟩ := map_get hr
      obtain ⟨p', hp', rfl⟩ := map_get hq
      rw [hp] at hp'
      cases hp'
      exact ed_op (ed_var rfl) ed_int (rv_ixT (ds := [.str _, .int _, .int _]) rfl)
    refine rd_seq (rd_if (b := false) (et_or (a := false) (et_not (a := true) (et_B (ed_cb (ea_cons (ed_var rfl) (ea_cons ed_ty ea_nil)) (rc_isi (n := "dict") (b := true) rfl)))) fun _ => et_test (ed_op (x := .lst ((ps.map Pin.name).map .str)) (y := .lst ((ps.map Pin.name).map .str)) ((ed_cb (ea_cons (ed_var rfl) ea_nil) rc_listD).to (by rw [ekq])) (ed_lc_list (ds := ps.map pinT) (rs := (ps.map Pin.name).map .str) (ed_var rfl) (by simp) (by rw [List.length_map]; omega) fun k d r hd hr => ?_) (rv_neNames sp))) (fun h => by cases h) fun _ => rd_next ?_)
    · obtain ⟨p, hp, rfl⟩ := map_get hd
      obtain ⟨q, hq, rfl⟩ := map_get hr
      obtain ⟨p', hp', rfl⟩ := map_get hq
      rw [hp] at hp'
      cases hp'
      exact ed_op (ed_var rfl) ed_int (rv_ixT (ds := [.str _, spotD _, waysD _]) rfl)
    refine rd_seq (rd_if (b := false) (et_not (a := true) (et_B ((ed_cb (ea_cons (ed_lc_list (ds := bs.map barT) (rs := (List.replicate bs.length true).map .bl) (ed_var rfl) (by simp) (by rw [List.length_map]; omega) fun k d r hd hr => ?_) ea_nil) rc_all).to (by rw [all_true])))) (fun h => by cases h) fun _ => rd_next ?_)
    · obtain ⟨b, hb, rfl⟩ := map_get hd
      obtain ⟨q, hq, rfl⟩ := map_get hr
      have hbl := (List.getElem?_eq_some_iff.mp hb).1
      have : q = true := List.eq_of_mem_replicate (get_mem hq)
      subst this
      exact ed_call (ea_cons (ed_dget (k := .inr b.1) (ed_var rfl) (ed_op (ed_var rfl) ed_int (rv_ixT (ds := [.str _, .int _, .int _]) rfl)) (ok.pv k b hb)) ea_nil) ⟨pu k, rfl, ok.pl k hbl, rfl⟩
    refine rd_seq (rd_for_list (ds := ps.map pinT) (ed_var rfl) (fun k G => ∃ x4 x5 x6 x7 x8 x9, G = [some (pinsT ps), some (barsT bs), some (.dK pk), some (.dK qk), x4, x5, x6, x7, x8, x9]) ⟨_, _, _, _, _, _, rfl⟩ ?_ ?_)
    · rintro k d G hd ⟨x4, x5, x6, x7, x8, x9, rfl⟩
      obtain ⟨p, hp, rfl⟩ := map_get hd
      have hkl := (List.getElem?_eq_some_iff.mp hp).1
      have hnm : nameAt ps k = p.name := by unfold nameAt; rw [getD_of hp]
      obtain ⟨q1, q2⟩ := fo.ql k hkl
      rw [getD_of hp] at q1
      have hwl := fo.wl p (get_mem hp)
      have eg : ∀ {G : Gam}, G[3]? = some (some (.dK qk)) → G[4]? = some (some (.str p.name)) → EvD (sysOf K) (tDGet (tVar 3) (tVar 4)) G (colD (qu k)) := fun g1 g2 => ed_dget (k := .inr p.name) (ed_var g1) (ed_var g2) (by rw [← hnm]; exact ok.qv k hkl)
      refine ⟨_, tg_tup (ds := [.str p.name, spotD p, waysD p.ways]) (tgs_cons tg_name (tgs_cons tg_name (tgs_cons tg_name tgs_nil))), ?_⟩
      refine rd_seq (rd_if (b := false) (et_or (a := false) (et_not (a := true) (et_B (ed_cb (ea_cons (eg rfl rfl) (ea_cons ed_ty ea_nil)) (rc_isi (n := "list") (b := true) rfl)))) fun _ => (et_test (ed_op (ed_cb (ea_cons (eg rfl rfl) ea_nil) (rc_lenL (ds := (qu k).map num))) (ed_cb (ea_cons (ed_var rfl) ea_nil) (rc_lenL (ds := p.ways.map way))) rv_neI)).to (decide_eq_false (by rw [List.length_map, List.length_map, q1]; simp))) (fun h => by cases h) fun _ => rd_next ?_)
      refine rd_if (b := false) (et_not (a := true) (et_B ((ed_cb (ea_cons (ed_lc_list (ds := (qu k).map num) (rs := (List.replicate (qu k).length true).map .bl) (eg rfl rfl) (by simp) (by rw [List.length_map]; omega) fun j d r hd hr => ?_) ea_nil) rc_all).to (by rw [all_true])))) (fun h => by cases h) fun _ => rd_next ⟨_, _, _, _, _, _, rfl⟩
      obtain ⟨b, hb, rfl⟩ := map_get hd
      obtain ⟨q, hq, rfl⟩ := map_get hr
      have : q = true := List.eq_of_mem_replicate (get_mem hq)
      subst this
      exact ed_call (ea_cons (ed_var rfl) ea_nil) ⟨b, rfl, ok.ql k hkl b (get_mem hb), rfl⟩
    · rintro G ⟨x4, x5, x6, x7, x8, x9, rfl⟩
      exact rd_ret ed_bl (.inl rfl)
def R_law_at_rest (ds : List Dat) (d : Dat) : Prop := ∃ (ps : List Pin) (bs : List LBar) (pk qk : List (Key × Dat)) (pu : Nat → Num) (qu : Nat → List Num) (M : Nat), ds = [pinsT ps, barsT bs, .dK pk, .dK qk, .dK []] ∧ PulOk ps bs pk qk pu qu ∧ ForcesOk ps bs pu qu M ∧ (∀ k, k < ps.length → ∀ a, a < 2 → totF ps bs pu qu k a = 0) ∧ d = .bl true
theorem ok_law_at_rest (T : Txt K mg) (B : Bas Pr base) : FnOk Pr w K mg base CX0 43 (He.ga K "_law_at_rest") (fdAt K (He.ga K "_law_at_rest")) ["_law_pins_here", "_law_bars_here", "_law_pulls", "_law_pushes", "_law_load"] (spF (sysOf K) R_law_at_rest) := by
  refine pure_ok (S := sysOf K) (k := 42) T.F_law_at_rest sc_law_at_rest (fun ds d h => ?_) (fun cdv A outer s H E hr => ?_)
  · obtain ⟨ps, bs, pk, qk, pu, qu, M, rfl, _⟩ := h
    rfl
  · refine ⟨_, (pss_cons (ps_setLc (i := 5) (own := [("_law_pin", 10)]) (g := gName 10) (tt := tYes) rfl (sc_law_at_rest).nd rfl rfl (sw_true rfl rfl rfl (by decide +kernel)) (pi_list (pv 0)) (blkOk_by (N := ["_law_pins_here", "_law_bars_here", "_law_pulls", "_law_pushes", "_law_load", "_law_some", "_law_found", "_law_k", "_law_drawn", "_law_axis", "_law_pin", "_law_bar"]) (sc := defScope s_law_at_rest) (by decide +kernel)) (fun _ _ _ _ _ => pg_name (i := 10) (sc_law_at_rest).nd rfl (Or.inl rfl)) (fun _ _ _ _ _ => pts_nil) (fun _ _ _ _ _ => (pe_dget (hu_of hr) (pv 3) (pe_ix (ix_tupK K) (pv 10) pe_int (fun _ _ => rfl)) (fun _ _ => rfl)))) (pss_cons (ps_set (i := 6) (sc_law_at_rest).nd rfl (Or.inl rfl) (pe_call (ok_law_forces T B) (hr.mono (by decide)) rfl T.g_law_forces T.F_law_forces.kp T.b_law_forces .nil pass0 (pa_cons (pv 0) (pa_cons (pv 1) (pa_cons (pe_lc (own := [("_law_bar", 11)]) (g := gName 11) (tt := tYes) rfl (sc_law_at_rest).nd (pi_list (pv 1)) (blkOk_by (N := ["_law_pins_here", "_law_bars_here", "_law_pulls", "_law_pushes", "_law_load", "_law_some", "_law_found", "_law_k", "_law_drawn", "_law_axis", "_law_pin", "_law_bar"]) (sc := defScope s_law_at_rest) (by decide +kernel)) (fun _ _ _ _ _ => pg_name (i := 11) (sc_law_at_rest).nd rfl (Or.inl rfl)) (fun _ _ _ _ _ => pts_nil) (fun _ _ _ _ _ => (pe_dget (hu_of hr) (pv 2) (pe_ix (ix_tupK K) (pv 11) pe_int (fun _ _ => rfl)) (fun _ _ => rfl)))) (pa_cons (pv 5) pa_nil)))))) (pss_cons (ps_for PassesOwn.never rfl (pi_range1 rfl T.n_range (pa_cons (pe_callB call_len_seq (by rfl) T.n_len (by decide +kernel) (pa_cons (pv 0) pa_nil)) pa_nil)) (pg_name (i := 7) (sc_law_at_rest).nd rfl (Or.inl rfl)) (pss_cons (ps_set (i := 8) (sc_law_at_rest).nd rfl (Or.inl rfl) (pe_dget2 (hu_of hr) (pv 4) (pe_ix ix_tup (pe_ix ix_list (pv 0) (pv 7) (fun _ _ => rfl)) pe_int (fun _ _ => rfl)) (pe_tup (pa_cons (pe_tup (pa_cons pe_int (pa_cons pe_int pa_nil))) (pa_cons (pe_tup (pa_cons pe_int (pa_cons pe_int pa_nil))) pa_nil))) ⟨rfl, rfl, rfl, rfl⟩)) (pss_one (ps_for PassesOwn.never rfl (pi_range1 rfl T.n_range (pa_cons pe_int pa_nil)) (pg_name (i := 9) (sc_law_at_rest).nd rfl (Or.inl rfl)) (pss_one (ps_if (pt_cmpR op_ne (pe_ix ix_tup (pe_call (ok_law_sum T B) (hr.mono (by decide)) rfl T.g_law_sum T.F_law_sum.kp T.b_law_sum .nil pass0 (pa_cons (pe_ix ix_list (pe_ix ix_list (pv 6) (pv 7) (fun _ _ => rfl)) (pv 9) (fun _ _ => rfl)) (pa_cons (pe_ix ix_tup (pv 8) (pv 9) (fun _ _ => rfl)) pa_nil))) pe_int (fun _ _ => rfl)) pe_int (nomark _)) (pss_one (ps_ret pe_bl)) pss_nil)))))) (pss_one (ps_ret pe_bl))))), fun ds d h => ?_⟩
    obtain ⟨ps, bs, pk, qk, pu, qu, M, rfl, ok, fo, hz, rfl⟩ := h
    have hpl := fo.pl
    have hbl := fo.bl
    refine rd_of_rz ?_ (.inl rfl)
    refine rz_seq ret_stable (rd_set (ed_lc_list (ds := ps.map pinT) (rs := (List.range ps.length).map fun i => colD (qu i)) (ed_var rfl) (by simp) (by rw [List.length_map]; omega) fun k d r hd hr => ?_) ?_)
    · obtain ⟨p, hp, rfl⟩ := map_get hd
      have hkl := (List.getElem?_eq_some_iff.mp hp).1
      have hnm : nameAt ps k = p.name := by unfold nameAt; rw [getD_of hp]
      obtain ⟨i, hi, rfl⟩ := map_get hr
      rw [List.getElem?_range hkl] at hi
      cases hi
      exact ed_dget (k := .inr p.name) (ed_var rfl) (ed_op (ed_var rfl) ed_int (rv_ixT (ds := [.str _, spotD _, waysD _]) rfl)) (by rw [← hnm]; exact ok.qv k hkl)
    have epul : EvD (sysOf K) (tLc (iList (sysOf K).K (tVar 1)) (gName 11) tYes (tDGet (tVar 2) (tOp (rIxT (sysOf K).K) (tVar 11) (tC (.int 0)))) [11]) [some (pinsT ps), some (barsT bs), some (.dK pk), some (.dK qk), some (.dK []), some (.lst ((List.range ps.length).map fun i => colD (qu i))), none, none, none, none, none, none] (.lst ((List.range bs.length).map fun i => num (pu i))) := by
      refine ed_lc_list (ds := bs.map barT) (rs := (List.range bs.length).map fun i => num (pu i)) (ed_var rfl) (by simp) (by rw [List.length_map]; omega) fun k d r hd hr => ?_
      obtain ⟨b, hb, rfl⟩ := map_get hd
      have hkl := (List.getElem?_eq_some_iff.mp hb).1
      obtain ⟨i, hi, rfl⟩ := map_get hr
      rw [List.getElem?_range hkl] at hi
      cases hi
      exact ed_dget (k := .inr b.1) (ed_var rfl) (ed_op (ed_var rfl) ed_int (rv_ixT (ds := [.str _, .int _, .int _]) rfl)) (ok.pv k b hb)
    refine rz_callZn (⟨ps, bs, pu, qu, M⟩ : FI) (ea_cons (ed_var (i := 0) rfl) (ea_cons (ed_var (i := 1) rfl) (ea_cons epul (ea_cons (ed_var (i := 5) rfl) ea_nil)))) ⟨rfl, fo⟩ ?_
    intro σ Hs H0 H1 H v H' st E1 post Ds q
    obtain ⟨H2, fs, s2, dv, hfl, hfs⟩ := post
    dsimp only at hfl hfs
    have E2 : EnvD (sysOf K) H2 (σ.set 6 (some v)) [some (pinsT ps), some (barsT bs), some (.dK pk), some (.dK qk), some (.dK []), some (.lst ((List.range ps.length).map fun i => colD (qu i))), some (foundD fs), none, none, none, none, none] := (E1.mono s2.s1).set (i := 6) dv
    refine RunZ.use (R := fun H1 H v H' => ∃ H2, Step H1 H H2 H' ∧ Dt (sysOf K) H2 v (.bl true)) ?_ s2.s2 E2 fun v4 H4 p => q v4 H4 (ret_stable _ _ _ _ _ _ (st.trans s2) p)
    refine rz_seq ret_stable (rd_for_range (n := (ps.length : Int)) (ed_lenP (ed_var rfl)) (by omega) (by omega) (fun k G => ∃ x7 x8 x9 x10 x11, G = [some (pinsT ps), some (barsT bs), some (.dK pk), some (.dK qk), some (.dK []), some (.lst ((List.range ps.length).map fun i => colD (qu i))), some (foundD fs), x7, x8, x9, x10, x11]) ⟨_, _, _, _, _, rfl⟩ ?_ ?_)
    · rintro k G hk ⟨x7, x8, x9, x10, x11, rfl⟩
      have hkl : k < ps.length := by omega
      have hfk : fs[k]? = some (fs.getD k z2) := by rw [List.getD_eq_getElem?_getD, List.getElem?_eq_getElem (by omega)]; rfl
      have h01 : ∀ {G : Gam}, EvD (sysOf K) (tTup (tCons (tC (.int 0)) (tCons (tC (.int 1)) tNil))) G (num (0, 1)) := ed_num (q := (0, 1)) ed_int ed_int
      refine ⟨_, tg_name, rd_seq (rd_set (d := way z2) (ed_kget2 (ds := []) (k := .inr (nameAt ps k)) (ed_var rfl) (ed_op (ed_op (ed_var rfl) (ed_var rfl) (rv_ixL (pin_at hkl rfl))) ed_int (rv_ixT (ds := [.str _, spotD _, waysD _]) rfl)) (ed_tup (ds := [num (0, 1), num (0, 1)]) (ea_cons h01 (ea_cons h01 ea_nil)))) ?_)⟩
      refine rd_for_range (n := 2) ed_int (by decide) (by decide) (fun a G => ∃ x9, G = [some (pinsT ps), some (barsT bs), some (.dK pk), some (.dK qk), some (.dK []), some (.lst ((List.range ps.length).map fun i => colD (qu i))), some (foundD fs), some (.int (k : Int)), some (way z2), x9, x10, x11]) ⟨_, rfl⟩ ?_ ?_
      · rintro a G ha ⟨x9, rfl⟩
        have ha2 : a < 2 := ha
        obtain ⟨g, hv⟩ := hfs k hkl a ha2
        have gz : Good 1 (coordW z2 a) := by
          unfold coordW z2
          split <;> exact ⟨sz_nought, by decide⟩
        have hsum : (sumL (cell fs k a) (coordW z2 a)).1 = 0 := by
          have h1 := val_sum (good_ne g) (good_ne gz)
          have h2 : val (coordW z2 a) = 0 := by
            unfold coordW z2
            split <;> (unfold val; dsimp only; grind)
          have h3 : (sumL (cell fs k a) (coordW z2 a)).2 ≠ 0 := good_ne (good_sum g gz)
          refine (val_zero h3).mp ?_
          rw [h1, h2, hv, hz k hkl a ha2]
          grind
        refine ⟨_, tg_name, rd_if (b := false) ((et_test (ed_op (ed_n0 (q := sumL (cell fs k a) (coordW z2 a)) (ed_call (ea_cons (ed_op (ed_op (ed_var rfl) (ed_var rfl) (rv_ixL (z := pairD (fs.getD k z2)) (at_ofD rfl (by rw [List.getElem?_map, hfk]; rfl)))) (ed_var rfl) (rv_ixL (ds := [num _, num _]) (at_ofD rfl (coord_at ha2)))) (ea_cons (ed_op (ed_var rfl) (ed_var rfl) (rv_ixT (ds := [num _, num _]) (at_ofD rfl (coord_at ha2)))) ea_nil)) ⟨_, _, 40000000, 1, rfl, g.1, gz.1, by decide, rfl⟩)) ed_int rv_neI)).to (decide_eq_false (by rw [hsum]; decide))) (fun h => by cases h) fun _ => rd_next ⟨_, rfl⟩⟩
      · rintro G ⟨x9, rfl⟩
        exact ⟨_, _, _, _, _, rfl⟩
    · rintro G ⟨x7, x8, x9, x10, x11, rfl⟩
      exact rz_ret ed_bl fun H1 H H2 H' v s dv => ⟨H2, s, dv⟩
end
end Ty
set_option Elab.async false
set_option linter.all false
set_option maxRecDepth 100000
set_option maxHeartbeats 8000000
/-! _law_right. -/
namespace Ty
open PySem PySem.Spec PyProof.Rows L2
theorem rv_notIn {S : Sys} {i : Int} {l : List Int} {b : Bool} (h : inV (.int i) (l.map V.int) = b) : RvD S (rIn S.K true) (.int i) (.lst (l.map .int)) (.bl (!b)) := rv_now fun H1 H u v e a c Q q => by
  cases a
  cases c with
  | lst ha hd =>
    have := hd.ints
    subst this
    refine ⟨_, _, rfl, .inl (SqL.of (e _ _ ha)), rfl, ?_, ?_⟩
    · rw [List.all_map]
      exact List.all_eq_true.mpr fun x hx => rfl
    · rw [h]
      exact q _ (.bl _)
def SpareOk (ps : List Pin) (bs : List LBar) (n : Str) (i j : Nat) (told : Dat) : Prop := ∃ (pk qk : List (Key × Dat)) (pu : Nat → Num) (qu : Nat → List Num) (M : Nat), told = .tup [.str "spare", .dK pk, .dK qk] ∧ PulOk ps (bs ++ [(n, i, j)]) pk qk pu qu ∧ ForcesOk ps (bs ++ [(n, i, j)]) pu qu M ∧ pu bs.length = (1, 1) ∧ ∀ k, k < ps.length → ∀ a, a < 2 → totF ps (bs ++ [(n, i, j)]) pu qu k a = 0
def StiffOk (ps : List Pin) (bs : List LBar) (n : Str) (i j : Nat) (told : Dat) : Prop := ∃ (mk : List (Key × Dat)) (mo : Nat → Num × Num) (M : Nat), told = .tup [.str "stiffer", .dK mk] ∧ MotOk ps mk mo M ∧ mk.map (·.1) = ps.map (fun p => (Sum.inr p.name : Key)) ∧ (∀ p ∈ ps, PyData.strOk p.name = true) ∧ (∀ i, i < ps.length → Low (mo i).1 ∧ Low (mo i).2) ∧
  (∀ b ∈ bs, (longL ps b mo).1 = 0) ∧ (∀ i p, ps[i]? = some p → ∀ w ∈ p.ways, (dotL w (mo i)).1 = 0) ∧ (longL ps (n, i, j) mo).1 = (longL ps (n, i, j) mo).2
section
variable {Pr : Program} {w : World} {K : PySem.W.Frag} {mg : Str → Option Value} {base : Heap}
def R_law_right (ds : List Dat) (d : Dat) : Prop := ∃ (ps : List Pin) (bs : List LBar) (n x y : Str) (i j : Nat) (told : Dat), ds = [pinsT ps, barsT bs, .lst [.str n, .str x, .str y], .lst [.int i, .int j], told] ∧ PinsGd ps ∧ ps.length ≤ 5 ∧ bs.length ≤ 7 ∧ (∀ b ∈ bs, b.2.1 < ps.length ∧ b.2.2 < ps.length) ∧ i < ps.length ∧ j < ps.length ∧ (SpareOk ps bs n i j told ∨ StiffOk ps bs n i j told) ∧ d = .bl true
theorem ok_law_right (T : Txt K mg) (B : Bas Pr base) : FnOk Pr w K mg base CX0 44 (He.ga K "_law_right") (fdAt K (He.ga K "_law_right")) ["_law_pins_here", "_law_bars_here", "_law_new_here", "_law_ends", "_law_told"] (spF (sysOf K) R_law_right) := by
  refine pure_ok (S := sysOf K) (k := 43) T.F_law_right sc_law_right (fun ds d h => ?_) (fun cdv A outer s H E hr => ?_)
  · obtain ⟨ps, bs, n, x, y, i, j, told, rfl, _⟩ := h
    rfl
  · refine ⟨_, (pss_cons (ps_if (PW.pt (pw_or (pt_not (pt_val (pe_callB call_isi (by rfl) T.n_isinstance (by decide +kernel) (pa_cons (pv 4) (pa_cons (pe_bltn (v := .ty "tuple") (u := .type "tuple") rfl T.n_tuple (by decide +kernel) rfl) pa_nil))))) (pw_or1 (pt_cmpR op_notIn_seq (pe_callB call_len_seq (by rfl) T.n_len (by decide +kernel) (pa_cons (pv 4) pa_nil)) (pe_lst (pa_cons pe_int (pa_cons pe_int pa_nil))) (by rfl))))) (pss_one (ps_ret pe_bl)) pss_nil) (pss_cons (ps_set (i := 5) (sc_law_right).nd rfl (Or.inl rfl) (pe_op op_cat (pv 1) (pe_lst (pa_cons (pe_tup (pa_cons (pe_ix ix_list (pv 2) pe_int (fun _ _ => rfl)) (pa_cons (pe_ix ix_list (pv 3) pe_int (fun _ _ => rfl)) (pa_cons (pe_ix ix_list (pv 3) pe_int (fun _ _ => rfl)) pa_nil)))) pa_nil)))) (pss_cons (ps_if (PW.pt (pw_and (pt_cmpR op_eq (pe_ix ix_tup (pv 4) pe_int (fun _ _ => rfl)) pe_str (nomark _)) (pw_and (pt_cmpR op_eq (pe_callB call_len_seq (by rfl) T.n_len (by decide +kernel) (pa_cons (pv 4) pa_nil)) pe_int (nomark _)) (pw_and1 (pt_val (pe_call (ok_law_are_forces T B) (hr.mono (by decide)) rfl T.g_law_are_forces T.F_law_are_forces.kp T.b_law_are_forces .nil pass0 (pa_cons (pv 0) (pa_cons (pv 5) (pa_cons (pe_ix ix_tup (pv 4) pe_int (fun _ _ => rfl)) (pa_cons (pe_ix ix_tup (pv 4) pe_int (fun _ _ => rfl)) pa_nil)))))))))) (pss_one (ps_ret (pe_and (pe_cmpR (op_eqD hr.units) (pe_dget (hu_of hr) (pe_ix ix_tup (pv 4) pe_int (fun _ _ => rfl)) (pe_ix ix_list (pv 2) pe_int (fun _ _ => rfl)) (fun _ _ => rfl)) (pe_tup (pa_cons pe_int (pa_cons pe_int pa_nil))) (nomark _)) (pe_one (pe_call (ok_law_at_rest T B) (hr.mono (by decide)) rfl T.g_law_at_rest T.F_law_at_rest.kp T.b_law_at_rest .nil pass0 (pa_cons (pv 0) (pa_cons (pv 5) (pa_cons (pe_ix ix_tup (pv 4) pe_int (fun _ _ => rfl)) (pa_cons (pe_ix ix_tup (pv 4) pe_int (fun _ _ => rfl)) (pa_cons pe_dnewK pa_nil)))))))))) pss_nil) (pss_cons (ps_if (PW.pt (pw_or (pt_cmpR op_ne (pe_ix ix_tup (pv 4) pe_int (fun _ _ => rfl)) pe_str (nomark _)) (pw_or (pt_cmpR op_ne (pe_callB call_len_seq (by rfl) T.n_len (by decide +kernel) (pa_cons (pv 4) pa_nil)) pe_int (nomark _)) (pw_or1 (pt_not (pt_val (pe_call (ok_law_is_motion T B) (hr.mono (by decide)) rfl T.g_law_is_motion T.F_law_is_motion.kp T.b_law_is_motion .nil pass0 (pa_cons (pv 0) (pa_cons (pe_ix ix_tup (pv 4) pe_int (fun _ _ => rfl)) pa_nil))))))))) (pss_one (ps_ret pe_bl)) pss_nil) (pss_cons (ps_for PassesOwn.never rfl (pi_list (pv 1)) (pg_name (i := 6) (sc_law_right).nd rfl (Or.inl rfl)) (pss_one (ps_if (pt_cmpR op_ne (pe_ix ix_tup (pe_call (ok_law_longer T B) (hr.mono (by decide)) rfl T.g_law_longer T.F_law_longer.kp T.b_law_longer .nil pass0 (pa_cons (pv 0) (pa_cons (pv 6) (pa_cons (pe_ix ix_tup (pv 4) pe_int (fun _ _ => rfl)) pa_nil)))) pe_int (fun _ _ => rfl)) pe_int (nomark _)) (pss_one (ps_ret pe_bl)) pss_nil))) (pss_cons (ps_set (i := 7) (sc_law_right).nd rfl (Or.inl rfl) (pe_call (ok_law_longer T B) (hr.mono (by decide)) rfl T.g_law_longer T.F_law_longer.kp T.b_law_longer .nil pass0 (pa_cons (pv 0) (pa_cons (pe_ix ix_list (pv 5) (pe_un un_neg pe_int) (fun _ _ => rfl)) (pa_cons (pe_ix ix_tup (pv 4) pe_int (fun _ _ => rfl)) pa_nil))))) (pss_one (ps_ret (pe_and (pe_call (ok_law_keeps T B) (hr.mono (by decide)) rfl T.g_law_keeps T.F_law_keeps.kp T.b_law_keeps .nil pass0 (pa_cons (pv 0) (pa_cons (pe_ix ix_tup (pv 4) pe_int (fun _ _ => rfl)) pa_nil))) (pe_one (pe_cmpR op_eq (pe_ix ix_tup (pv 7) pe_int (fun _ _ => rfl)) (pe_ix ix_tup (pv 7) pe_int (fun _ _ => rfl)) (nomark _)))))))))))), fun ds d h => ?_⟩
    obtain ⟨ps, bs, n, x, y, i, j, told, rfl, hg, hpl, hbl, hbi, hi, hj, hcase, rfl⟩ := h
    have emore : EvD (sysOf K) (tOp rCat (tVar 1) (tLst (tCons (tTup (tCons (tOp (rIxL K) (tVar 2) (tC (.int 0))) (tCons (tOp (rIxL K) (tVar 3) (tC (.int 0))) (tCons (tOp (rIxL K) (tVar 3) (tC (.int 1))) tNil)))) tNil))) [some (pinsT ps), some (barsT bs), some (.lst [.str n, .str x, .str y]), some (.lst [.int (i : Int), .int (j : Int)]), some told, none, none, none] (barsT (bs ++ [(n, i, j)])) := by
      refine (ed_cat (ds := bs.map barT) (es := [barT (n, i, j)]) (ed_var rfl) (ed_lst (ea_cons (ed_tup (ea_cons (ed_op (ed_var rfl) ed_int (rv_ixL rfl)) (ea_cons (ed_op (ed_var rfl) ed_int (rv_ixL rfl)) (ea_cons (ed_op (ed_var rfl) ed_int (rv_ixL rfl)) ea_nil)))) ea_nil)) (by rw [List.length_map]; simp; omega)).to ?_
      unfold barsT
      rw [List.map_append]
      rfl
    rcases hcase with ⟨pk, qk, pu, qu, M, rfl, pok, fok, hone, htot⟩ | ⟨mk, mo, M, rfl, mok, mks, msk, mlow, mbar, mkeep, mlong⟩
    · refine rd_seq (rd_if (b := false) (et_or (a := false) (et_not (a := true) (et_B (ed_cb (ea_cons (ed_var rfl) (ea_cons ed_ty ea_nil)) (rc_isi (n := "tuple") (b := true) rfl)))) fun _ => et_test (ed_op (ed_cb (ea_cons (ed_var rfl) ea_nil) (rc_lenT (ds := [_, _, _]))) (ed_lst (ds := [2, 3].map .int) (ea_cons ed_int (ea_cons ed_int ea_nil))) (rv_notIn (b := true) (by rfl)))) (fun h => by cases h) fun _ => rd_next ?_)
      refine rd_seq (rd_set emore ?_)
      refine rd_seq (rd_if (b := true) (et_and (a := true) (et_test (ed_op (ed_op (ed_var rfl) ed_int (rv_ixT rfl)) ed_str rv_eqS)) fun _ => et_and (a := true) (et_test (ed_op (ed_cb (ea_cons (ed_var rfl) ea_nil) (rc_lenT (ds := [_, _, _]))) ed_int rv_eqI)) fun _ => et_B (ed_call (ea_cons (ed_var rfl) (ea_cons (ed_var rfl) (ea_cons (ed_op (ed_var rfl) ed_int (rv_ixT rfl)) (ea_cons (ed_op (ed_var rfl) ed_int (rv_ixT rfl)) ea_nil)))) ⟨ps, _, pk, qk, pu, qu, M, rfl, pok, fok, rfl⟩)) (fun _ => ?_) (fun h => by cases h))
      have hlast : (bs ++ [(n, i, j)])[bs.length]? = some (n, i, j) := by rw [List.getElem?_append_right (Nat.le_refl _), Nat.sub_self]; rfl
      refine rd_ret (ed_andV (a := true) (b := true) ((ed_op (x := num (1, 1)) (y := num (1, 1)) (ed_dget (k := .inr n) (ed_op (ed_var rfl) ed_int (rv_ixT rfl)) (ed_op (ed_var rfl) ed_int (rv_ixL rfl)) (by rw [← hone]; exact pok.pv _ _ hlast)) (ed_num (q := (1, 1)) ed_int ed_int) rv_eqN).to (by rw [decide_eq_true rfl])) fun _ => ed_call (ea_cons (ed_var rfl) (ea_cons (ed_var rfl) (ea_cons (ed_op (ed_var rfl) ed_int (rv_ixT rfl)) (ea_cons (ed_op (ed_var rfl) ed_int (rv_ixT rfl)) (ea_cons new_K.ev ea_nil))))) ⟨ps, _, pk, qk, pu, qu, M, rfl, pok, fok, htot, rfl⟩) (.inl rfl)
    · refine rd_seq (rd_if (b := false) (et_or (a := false) (et_not (a := true) (et_B (ed_cb (ea_cons (ed_var rfl) (ea_cons ed_ty ea_nil)) (rc_isi (n := "tuple") (b := true) rfl)))) fun _ => et_test (ed_op (ed_cb (ea_cons (ed_var rfl) ea_nil) (rc_lenT (ds := [_, _]))) (ed_lst (ds := [2, 3].map .int) (ea_cons ed_int (ea_cons ed_int ea_nil))) (rv_notIn (b := true) (by rfl)))) (fun h => by cases h) fun _ => rd_next ?_)
      refine rd_seq (rd_set emore ?_)
      refine rd_seq (rd_if (b := false) (et_and (a := false) (b := false) (et_test (ed_op (ed_op (ed_var rfl) ed_int (rv_ixT rfl)) ed_str rv_eqS)) fun h => by cases h) (fun h => by cases h) fun _ => rd_next ?_)
      refine rd_seq (rd_if (b := false) (et_or (a := false) (et_test (ed_op (ed_op (ed_var rfl) ed_int (rv_ixT rfl)) ed_str rv_neS)) fun _ => et_or (a := false) (et_test (ed_op (ed_cb (ea_cons (ed_var rfl) ea_nil) (rc_lenT (ds := [_, _]))) ed_int rv_neI)) fun _ => et_not (a := true) (et_B (ed_call (ea_cons (ed_var rfl) (ea_cons (ed_op (ed_var rfl) ed_int (rv_ixT rfl)) ea_nil)) ⟨ps, mk, mo, M, rfl, mok, hpl, mks, msk, mlow, rfl⟩))) (fun h => by cases h) fun _ => rd_next ?_)
      refine rd_seq (rd_for_list (ds := bs.map barT) (ed_var rfl) (fun k G => ∃ x6, G = [some (pinsT ps), some (barsT bs), some (.lst [.str n, .str x, .str y]), some (.lst [.int (i : Int), .int (j : Int)]), some (.tup [.str "stiffer", .dK mk]), some (barsT (bs ++ [(n, i, j)])), x6, none]) ⟨_, rfl⟩ ?_ ?_)
      · rintro k d G hd ⟨x6, rfl⟩
        obtain ⟨b, hb, rfl⟩ := map_get hd
        have hbm := get_mem hb
        exact ⟨_, tg_name, rd_if (b := false) ((et_test (ed_op (ed_n0 (q := longL ps b mo) (ed_call (ea_cons (ed_var rfl) (ea_cons (ed_var rfl) (ea_cons (ed_op (ed_var rfl) ed_int (rv_ixT rfl)) ea_nil))) ⟨ps, b, mk, mo, M, rfl, (hbi b hbm).1, (hbi b hbm).2, hg, mok, rfl⟩)) ed_int rv_neI)).to (decide_eq_false (by rw [mbar b hbm]; decide))) (fun h => by cases h) fun _ => rd_next ⟨_, rfl⟩⟩
      · rintro G ⟨x6, rfl⟩
        have hneg : EvD (sysOf K) (tUn (rU fun i => .int (-i)) (tC (.int 1))) [some (pinsT ps), some (barsT bs), some (.lst [.str n, .str x, .str y]), some (.lst [.int (i : Int), .int (j : Int)]), some (.tup [.str "stiffer", .dK mk]), some (barsT (bs ++ [(n, i, j)])), x6, none] (.int (-1)) := fun σ H1 H e E Q q => ⟨1, rfl, q H1 H _ (Step.refl e) (.int _)⟩
        have hat : atI ((bs ++ [(n, i, j)]).map barT) (-1) = some (barT (n, i, j)) := by
          unfold atI ixN
          rw [List.length_map, List.length_append, List.length_singleton]
          rw [if_neg (by decide), if_pos (by omega)]
          show ((bs ++ [(n, i, j)]).map barT)[((-1 : Int) + ((bs.length + 1 : Nat) : Int)).toNat]? = _
          rw [show ((-1 : Int) + ((bs.length + 1 : Nat) : Int)).toNat = bs.length by omega, List.map_append, List.getElem?_append_right (by simp), List.length_map, Nat.sub_self]
          rfl
        refine rd_seq (rd_set (ed_call (ea_cons (ed_var rfl) (ea_cons (ed_op (ed_var rfl) hneg (rv_ixL hat)) (ea_cons (ed_op (ed_var rfl) ed_int (rv_ixT rfl)) ea_nil))) ⟨ps, (n, i, j), mk, mo, M, rfl, hi, hj, hg, mok, rfl⟩) ?_)
        refine rd_ret (ed_andV (a := true) (b := true) (ed_call (ea_cons (ed_var rfl) (ea_cons (ed_op (ed_var rfl) ed_int (rv_ixT rfl)) ea_nil)) ⟨ps, mk, mo, M, rfl, hg, mok, mkeep, rfl⟩) fun _ => (ed_op (ed_n0 (q := longL ps (n, i, j) mo) (ed_var rfl)) (ed_n1 (q := longL ps (n, i, j) mo) (ed_var rfl)) rv_eqI).to (by rw [decide_eq_true mlong])) (.inl rfl)
end
end Ty
set_option Elab.async false
set_option linter.all false
set_option maxRecDepth 100000
set_option maxHeartbeats 4000000
/-! The plain law: what is told answers as the law asks. -/
namespace Ty
open PySem PySem.Spec L2
/-! lowest terms -/
theorem low_div {t b g : Int} (hg : g.natAbs = Int.gcd t b) (h0 : g ≠ 0) (hb : 0 < b / g) : Low (t / g, b / g) := by
  have d1 : g ∣ t := Int.natAbs_dvd.mp (by rw [hg]; exact (gcd_dvd t b).1)
  have d2 : g ∣ b := Int.natAbs_dvd.mp (by rw [hg]; exact (gcd_dvd t b).2)
  refine ⟨hb, ?_⟩
  obtain ⟨t', rfl⟩ := d1
  obtain ⟨b', rfl⟩ := d2
  dsimp only
  rw [Int.mul_ediv_cancel_left _ h0, Int.mul_ediv_cancel_left _ h0]
  rw [Int.gcd_mul_left] at hg
  have hp : 0 < g.natAbs := by omega
  have : g.natAbs * 1 = g.natAbs * Int.gcd t' b' := by omega
  exact (Nat.eq_of_mul_eq_mul_left hp this).symm
theorem low_ratio {t b : Int} (hb : b ≠ 0) : Low (ratioOf t b) := by
  have g := gcd_ne (a := t) hb
  have h := ratio_bot (a := t) hb
  unfold ratioOf at h ⊢
  split
  · rename_i hn
    rw [if_pos hn] at h
    exact low_div (by omega) (by omega) h
  · rename_i hn
    rw [if_neg hn] at h
    exact low_div (by omega) g h
theorem low_eq {p q : Num} (hp : Low p) (hq : Low q) (h : val p = val q) : p = q := by
  obtain ⟨p1, p2⟩ := p
  obtain ⟨q1, q2⟩ := q
  obtain ⟨a1, a2⟩ := hp
  obtain ⟨b1, b2⟩ := hq
  dsimp only at a1 a2 b1 b2
  have e : p1 * q2 = q1 * p2 := by
    have n1 := cast_ne (show p2 ≠ 0 by omega)
    have n2 := cast_ne (show q2 ≠ 0 by omega)
    unfold val at h
    dsimp only at h
    have : ((p1 * q2 : Int) : Rat) = ((q1 * p2 : Int) : Rat) := by
      rw [Rat.intCast_mul, Rat.intCast_mul]
      grind
    exact_mod_cast this
  have d1 : p2.natAbs ∣ q2.natAbs := by
    have c : Nat.Coprime p2.natAbs p1.natAbs := by
      show Nat.gcd _ _ = 1
      rw [Nat.gcd_comm]
      exact a2
    refine c.dvd_of_dvd_mul_left ?_
    rw [← Int.natAbs_mul, e, Int.natAbs_mul]
    exact Nat.dvd_mul_left _ _
  have d2 : q2.natAbs ∣ p2.natAbs := by
    have c : Nat.Coprime q2.natAbs q1.natAbs := by
      show Nat.gcd _ _ = 1
      rw [Nat.gcd_comm]
      exact b2
    refine c.dvd_of_dvd_mul_left ?_
    rw [← Int.natAbs_mul, ← e, Int.natAbs_mul]
    exact Nat.dvd_mul_left _ _
  have e2 : p2 = q2 := by
    have := Nat.dvd_antisymm d1 d2
    omega
  subst e2
  have : p1 = q1 := Int.eq_of_mul_eq_mul_right (by omega) e
  rw [this]
theorem turn_diff {p q : Num} (hp : p.2 ≠ 0) (hq : q.2 ≠ 0) : turnOf (diffOf p q) = diffOf q p := by
  have hd : (diffOf p q).2 ≠ 0 := by
    have := diff_bot hp hq
    omega
  refine low_eq (low_ratio (Int.mul_ne_zero (by decide) hd)) (low_ratio (Int.mul_ne_zero hq hp)) ?_
  have h1 : val (turnOf (diffOf p q)) = - val (diffOf p q) := val_turn hd
  have h2 := val_diff hp hq
  have h3 := val_diff hq hp
  show val (turnOf (diffOf p q)) = val (diffOf q p)
  rw [h1, h2, h3]
  grind
/-! columns -/
theorem pairs_at {F : Frm} {k a : Nat} (hk : k < F.pins.length) (ha : a < 2) : (pairsK F)[2 * k + a]? = some [.inr (nameAt F.pins k), .inl (a : Int)] := by
  unfold pairsK nameAt
  generalize F.pins = l at hk ⊢
  induction l generalizing k with
  | nil => cases hk
  | cons p l ih =>
    rw [List.flatMap_cons]
    cases k with
    | zero =>
      match a, ha with
      | 0, _ => rfl
      | 1, _ => rfl
    | succ k =>
      rw [List.getElem?_append_right (by simp; omega)]
      have := ih (k := k) (by simpa using hk)
      rw [show 2 * (k + 1) + a - [[(.inr p.name : Key), .inl 0], [.inr p.name, .inl 1]].length = 2 * k + a by simp; omega]
      rw [this]
      rfl
theorem key_ne {x y : Str} {a b : Int} (h : ¬ (x = y ∧ a = b)) : ¬ ([(.inr x : Key), .inl a] = [.inr y, .inl b]) := by
  intro e
  injection e with e1 e2
  injection e2 with e2
  injection e1 with e1
  injection e2 with e2
  exact h ⟨e1, e2⟩
theorem draws1 (x : Str) (w : Num × Num) : [((x, w) : Draw)].foldl putDraw [] = [([.inr x, .inl 0], w.1), ([.inr x, .inl 1], w.2)] := by
  show putDraw [] (x, w) = _
  unfold putDraw
  rw [putD_new (ds := []) (by simp), putD_new (by
    simp only [List.nil_append, List.map_cons, List.map_nil, List.mem_singleton]
    exact key_ne (fun h => by cases h.2))]
  rfl
theorem draws2 {x y : Str} (hxy : x ≠ y) (w u : Num × Num) : [((x, w) : Draw), (y, u)].foldl putDraw [] = [([.inr x, .inl 0], w.1), ([.inr x, .inl 1], w.2), ([.inr y, .inl 0], u.1), ([.inr y, .inl 1], u.2)] := by
  have h1 := draws1 x w
  show putDraw ([((x, w) : Draw)].foldl putDraw []) (y, u) = _
  rw [h1]
  unfold putDraw
  have e1 : putD [([(.inr x : Key), .inl 0], w.1), ([.inr x, .inl 1], w.2)] [.inr y, .inl 0] u.1 = [([(.inr x : Key), .inl 0], w.1), ([.inr x, .inl 1], w.2)] ++ [([.inr y, .inl 0], u.1)] := putD_new fun m => by
    simp only [List.map_cons, List.map_nil, List.mem_cons, List.not_mem_nil, or_false] at m
    rcases m with m | m
    · exact key_ne (fun h => hxy h.1.symm) m
    · exact key_ne (fun h => hxy h.1.symm) m
  dsimp only
  rw [e1, putD_new fun m => by
    simp only [List.map_cons, List.map_nil, List.map_append, List.mem_append, List.mem_cons, List.not_mem_nil, or_false] at m
    rcases m with (m | m) | m
    · exact key_ne (fun h => hxy h.1.symm) m
    · exact key_ne (fun h => hxy h.1.symm) m
    · exact key_ne (fun h => by cases h.2) m]
  rfl
theorem valD_cons {κ α : Type} [DecidableEq κ] (k k' : κ) (a : α) (l : List (κ × α)) : valD ((k, a) :: l) k' = if k = k' then some a else valD l k' := by
  unfold valD
  rw [List.find?_cons]
  by_cases h : k = k'
  · simp [h]
  · simp [h]
theorem col_entry {F : Frm} {dr : List Draw} {k a : Nat} (hk : k < F.pins.length) (ha : a < 2) : (colBy (pairsK F) dr).getD (2 * k + a) (0, 1) = (valD (dr.foldl putDraw []) [.inr (nameAt F.pins k), .inl (a : Int)]).getD (0, 1) := by
  unfold colBy
  rw [List.getD_eq_getElem?_getD, List.getElem?_map, pairs_at hk ha]
  rfl
theorem key_iff {x y : Str} {a b : Int} : ([(.inr x : Key), .inl a] = [.inr y, .inl b]) ↔ (x = y ∧ a = b) := by
  constructor
  · intro e
    injection e with e1 e2
    injection e2 with e2
    injection e1 with e1
    injection e2 with e2
    exact ⟨e1, e2⟩
  · rintro ⟨rfl, rfl⟩
    rfl
theorem val01 : val (0, 1) = 0 := by
  unfold val
  dsimp only
  grind
theorem entry1 {F : Frm} {x : Str} {w : Num × Num} {k a : Nat} (hk : k < F.pins.length) (ha : a < 2) : val ((colBy (pairsK F) [(x, w)]).getD (2 * k + a) (0, 1)) = if nameAt F.pins k = x then val (coordW w a) else 0 := by
  rw [col_entry hk ha, draws1, valD_cons, valD_cons]
  have hv : valD ([] : List (List Key × Num)) [.inr (nameAt F.pins k), .inl (a : Int)] = none := rfl
  rw [hv]
  simp only [key_iff]
  by_cases e : nameAt F.pins k = x
  · subst e
    match a, ha with
    | 0, _ => simp [coordW]
    | 1, _ => simp [coordW]
  · have e' : ¬ x = nameAt F.pins k := fun z => e z.symm
    simp [e, e', val01]
theorem entry2 {F : Frm} {x y : Str} {w u : Num × Num} {k a : Nat} (hxy : x ≠ y) (hk : k < F.pins.length) (ha : a < 2) : val ((colBy (pairsK F) [(x, w), (y, u)]).getD (2 * k + a) (0, 1)) = (if nameAt F.pins k = x then val (coordW w a) else 0) + (if nameAt F.pins k = y then val (coordW u a) else 0) := by
  rw [col_entry hk ha, draws2 hxy, valD_cons, valD_cons, valD_cons, valD_cons]
  have hv : valD ([] : List (List Key × Num)) [.inr (nameAt F.pins k), .inl (a : Int)] = none := rfl
  rw [hv]
  simp only [key_iff]
  by_cases e : nameAt F.pins k = x
  · subst e
    have e2 : ¬ y = nameAt F.pins k := fun z => hxy z.symm
    match a, ha with
    | 0, _ =>
      simp [coordW, hxy]
      grind
    | 1, _ =>
      simp [coordW, hxy]
      grind
  · have e' : ¬ x = nameAt F.pins k := fun z => e z.symm
    by_cases f : nameAt F.pins k = y
    · subst f
      match a, ha with
      | 0, _ =>
        simp [coordW, e, e']
        grind
      | 1, _ =>
        simp [coordW, e, e']
        grind
    · have f' : ¬ y = nameAt F.pins k := fun z => f z.symm
      simp [e, e', f, f', val01]
      grind
/-- the other way about: the same column -/
theorem swap_col {F : Frm} {x y : Str} (hxy : x ≠ y) (w u : Num × Num) (ps : List (List Key)) : colBy ps [(y, u), (x, w)] = colBy ps [(x, w), (y, u)] := by
  unfold colBy
  refine List.map_congr_left fun ks _ => ?_
  rw [draws2 hxy, draws2 (Ne.symm hxy)]
  have hv : valD ([] : List (List Key × Num)) ks = none := rfl
  simp only [valD_cons, hv]
  by_cases h1 : [(.inr x : Key), .inl 0] = ks
  · subst h1
    simp [key_iff, hxy, Ne.symm hxy]
  · by_cases h2 : [(.inr x : Key), .inl 1] = ks
    · subst h2
      simp [key_iff, hxy, Ne.symm hxy]
    · simp [h1, h2]
theorem colOf_swap {F : Frm} (ok : FrmOk F) {x y : Str} {p q : Pin} (hp : F.pinAt x = some p) (hq : F.pinAt y = some q) (hxy : x ≠ y) : colOf F y x = colOf F x y := by
  obtain ⟨gpx, gpy, _⟩ := ok.gd p (pinAt_mem hp).1
  obtain ⟨gqx, gqy, _⟩ := ok.gd q (pinAt_mem hq).1
  have n1 : p.x.2 ≠ 0 := by have := gpx.2; omega
  have n2 : p.y.2 ≠ 0 := by have := gpy.2; omega
  have n3 : q.x.2 ≠ 0 := by have := gqx.2; omega
  have n4 : q.y.2 ≠ 0 := by have := gqy.2; omega
  unfold colOf barCol armOf
  rw [pin_of hp, pin_of hq]
  dsimp only
  rw [turn_diff n1 n3, turn_diff n2 n4, turn_diff n3 n1, turn_diff n4 n2]
  exact swap_col (F := F) hxy _ _ _
end Ty
set_option Elab.async false
set_option linter.all false
set_option maxRecDepth 100000
set_option maxHeartbeats 4000000
/-! The plain law, further: the answer told is right. -/
namespace Ty
open PySem PySem.Spec L2
theorem valD_at {α : Type} : ∀ {l : List (Key × α)} {i : Nat} {k : Key} {d : α}, (l.map (·.1)).Nodup → l[i]? = some (k, d) → valD l k = some d
  | [], _, _, _, _, h => by simp at h
  | p :: l, 0, k, d, _, h => by
    have e : p = (k, d) := by simpa using h
    rw [e, valD_cons, if_pos rfl]
  | p :: l, i + 1, k, d, hn, h => by
    rw [List.map_cons] at hn
    obtain ⟨h1, h2⟩ := List.nodup_cons.mp hn
    have hi : l[i]? = some (k, d) := by simpa using h
    have ne : ¬ p.1 = k := fun e => h1 (by rw [e]; exact List.mem_map.mpr ⟨(k, d), List.mem_of_getElem? hi, rfl⟩)
    rw [show p = (p.1, p.2) from rfl, valD_cons, if_neg ne]
    exact valD_at h2 hi
theorem flat_at {α β : Type} (g : α → List β) : ∀ (l : List α) (i j : Nat) (x : α), l[i]? = some x → j < (g x).length → (l.flatMap g)[((l.take i).map fun x => (g x).length).sum + j]? = (g x)[j]?
  | [], _, _, _, h, _ => by simp at h
  | a :: l, 0, j, x, h, hj => by
    have e : a = x := by simpa using h
    subst e
    rw [List.flatMap_cons]
    show (g a ++ _)[0 + j]? = _
    rw [Nat.zero_add, List.getElem?_append_left hj]
  | a :: l, i + 1, j, x, h, hj => by
    have ih := flat_at g l i j x (by simpa using h) hj
    rw [List.flatMap_cons, List.take_succ_cons, List.map_cons, List.sum_cons, List.getElem?_append_right (by omega)]
    rw [show (g a).length + ((l.take i).map fun x => (g x).length).sum + j - (g a).length = ((l.take i).map fun x => (g x).length).sum + j by omega]
    exact ih
theorem wayCol_at {F : Frm} {i j : Nat} (hi : i < F.pins.length) (hj : j < (F.pins.getD i nilPin).ways.length) : (wayCols F)[offW F.pins i + j]? = some (colBy (pairsK F) [(nameAt F.pins i, wayAt F.pins i j)]) := by
  have hp : F.pins[i]? = some (F.pins.getD i nilPin) := by rw [List.getD_eq_getElem?_getD, List.getElem?_eq_getElem hi]; rfl
  have h := flat_at (fun p : Pin => p.ways.map fun w => colBy (pairsK F) [(p.name, w)]) F.pins i j _ hp (by rw [List.length_map]; exact hj)
  have e : ((F.pins.take i).map fun p : Pin => (p.ways.map fun w => colBy (pairsK F) [(p.name, w)]).length).sum = offW F.pins i := by
    unfold offW
    congr 1
    refine List.map_congr_left fun p _ => ?_
    rw [List.length_map]
  rw [e] at h
  unfold wayCols
  rw [h, List.getElem?_map, List.getElem?_eq_getElem hj]
  unfold wayAt nameAt
  rw [List.getD_eq_getElem?_getD (l := (F.pins.getD i nilPin).ways), List.getElem?_eq_getElem hj]
  rfl
theorem wayCols_len (F : Frm) : (wayCols F).length = offW F.pins F.pins.length := by
  unfold wayCols offW
  rw [List.take_length, List.length_flatMap]
  congr 1
  refine List.map_congr_left fun p _ => ?_
  rw [List.length_map]
theorem offW_step {ps : List Pin} {t : Nat} (h : t < ps.length) : offW ps (t + 1) = offW ps t + (ps.getD t nilPin).ways.length := by
  have hp : ps[t]? = some (ps.getD t nilPin) := by rw [List.getD_eq_getElem?_getD, List.getElem?_eq_getElem h]; rfl
  exact offW_succ hp
theorem sum_off (ps : List Pin) (f : Nat → Rat) : ∀ t, t ≤ ps.length → sumR (offW ps t) f = sumR t (fun i => sumR (ps.getD i nilPin).ways.length (fun j => f (offW ps i + j)))
  | 0, _ => rfl
  | t + 1, h => by
    rw [offW_step (by omega), sumR_split, sum_off ps f t (by omega)]
    rfl
theorem offW_mono {ps : List Pin} {t : Nat} (h : t < ps.length) : offW ps t + (ps.getD t nilPin).ways.length ≤ offW ps ps.length := by
  have key : ∀ d, t + 1 + d ≤ ps.length → offW ps (t + 1) ≤ offW ps (t + 1 + d) := fun d => by
    induction d with
    | zero => intro _; exact Nat.le_refl _
    | succ d ih =>
      intro hd
      have h1 := ih (by omega)
      have h2 := offW_step (ps := ps) (t := t + 1 + d) (by omega)
      show _ ≤ offW ps (t + 1 + d + 1)
      omega
  have h3 := key (ps.length - (t + 1)) (by omega)
  rw [show t + 1 + (ps.length - (t + 1)) = ps.length by omega, offW_step h] at h3
  exact h3
theorem sumR_two (f : Nat → Rat) : ∀ n, sumR (2 * n) f = sumR n (fun k => f (2 * k) + f (2 * k + 1))
  | 0 => rfl
  | n + 1 => by
    show sumR (2 * n) f + f (2 * n) + f (2 * n + 1) = sumR n _ + (f (2 * n) + f (2 * n + 1))
    rw [sumR_two f n]
    grind
theorem sumR_add (f g : Nat → Rat) (n : Nat) : sumR n (fun i => f i + g i) = sumR n f + sumR n g := by
  have h := sumR_lin 1 1 f g n
  have e : sumR n (fun i => f i + g i) = sumR n (fun i => 1 * f i + 1 * g i) := sumR_congr fun i _ => by grind
  rw [e, h]
  grind
theorem sumR_if (n i : Nat) (hi : i < n) (x : Nat → Rat) : sumR n (fun k => if i = k then x k else 0) = x i := by
  rw [sumR_single hi fun j hj ne => if_neg (fun z => ne z.symm), if_pos rfl]
/-! entries of the columns -/
section
variable {ps : List Pin} {bs : List LBar}
theorem arm_val (h : PinsGd ps) {b : LBar} (h1 : b.2.1 < ps.length) (h2 : b.2.2 < ps.length) (a : Nat) : val (armL ps b a) = val (coordP (ps.getD b.2.2 nilPin) a) - val (coordP (ps.getD b.2.1 nilPin) a) := by
  unfold armL
  rw [val_sum (good_ne (h.c h2 a)) (good_ne (good_turnL (h.c h1 a))), val_turnL]
  grind
theorem pin_ix (h : LOk ps bs) {i : Nat} (hi : i < ps.length) : (frameOf ps bs).pin (nameAt ps i) = ps.getD i nilPin := pin_of (pinAt_ix (bs := (frameOf ps bs).bars) h.pn hi)
theorem armOf_val (h : LOk ps bs) {i j : Nat} (hi : i < ps.length) (hj : j < ps.length) (a : Nat) : val (coordW (armOf (frameOf ps bs) (nameAt ps i) (nameAt ps j)) a) = val (coordP (ps.getD j nilPin) a) - val (coordP (ps.getD i nilPin) a) ∧ (coordW (armOf (frameOf ps bs) (nameAt ps i) (nameAt ps j)) a).2 ≠ 0 := by
  have g : PinsGd ps := h.gd
  obtain ⟨gi1, gi2, _⟩ := g _ (getD_mem (a := nilPin) hi)
  obtain ⟨gj1, gj2, _⟩ := g _ (getD_mem (a := nilPin) hj)
  unfold armOf
  rw [pin_ix h hi, pin_ix h hj]
  unfold coordW coordP
  split
  · exact ⟨val_diff (good_ne gj1) (good_ne gi1), by have := diff_bot (good_ne gj1) (good_ne gi1); dsimp only; omega⟩
  · exact ⟨val_diff (good_ne gj2) (good_ne gi2), by have := diff_bot (good_ne gj2) (good_ne gi2); dsimp only; omega⟩
theorem turn_coord (w : Num × Num) (a : Nat) : coordW (turnOf w.1, turnOf w.2) a = turnOf (coordW w a) := by
  unfold coordW
  split <;> rfl
theorem bar_entry (h : LOk ps bs) {b : LBar} (h1 : b.2.1 < ps.length) (h2 : b.2.2 < ps.length) (ne : b.2.1 ≠ b.2.2) {k a : Nat} (hk : k < ps.length) (ha : a < 2) :
    val ((colOf (frameOf ps bs) (nameAt ps b.2.1) (nameAt ps b.2.2)).getD (2 * k + a) (0, 1)) = (if b.2.1 = k then val (armL ps b a) else 0) + (if b.2.2 = k then - val (armL ps b a) else 0) := by
  have hxy : nameAt ps b.2.1 ≠ nameAt ps b.2.2 := fun e => ne (name_inj h.pn h1 h2 e)
  obtain ⟨v1, v2⟩ := armOf_val h h1 h2 a
  unfold colOf barCol
  rw [entry2 hxy hk ha]
  rw [turn_coord, val_turn v2, v1, arm_val h.gd h1 h2 a]
  have e1 : (nameAt (frameOf ps bs).pins k = nameAt ps b.2.1) ↔ (b.2.1 = k) := ⟨fun e => (name_inj h.pn hk h1 e).symm, fun e => by rw [← e]; rfl⟩
  have e2 : (nameAt (frameOf ps bs).pins k = nameAt ps b.2.2) ↔ (b.2.2 = k) := ⟨fun e => (name_inj h.pn hk h2 e).symm, fun e => by rw [← e]; rfl⟩
  simp only [e1, e2]
theorem way_entry (h : LOk ps bs) {i k a : Nat} {w : Num × Num} (hi : i < ps.length) (hk : k < ps.length) (ha : a < 2) : val ((colBy (pairsK (frameOf ps bs)) [(nameAt ps i, w)]).getD (2 * k + a) (0, 1)) = if i = k then val (coordW w a) else 0 := by
  rw [entry1 hk ha]
  have e1 : (nameAt (frameOf ps bs).pins k = nameAt ps i) ↔ (i = k) := ⟨fun e => (name_inj h.pn hk hi e).symm, fun e => by rw [← e]; rfl⟩
  simp only [e1]
/-- the columns, by their places -/
theorem cols_way (h : LOk ps bs) {i j : Nat} (hi : i < ps.length) (hj : j < (ps.getD i nilPin).ways.length) : (allCols (frameOf ps bs)).getD (offW ps i + j) [] = colBy (pairsK (frameOf ps bs)) [(nameAt ps i, wayAt ps i j)] := by
  have e : (wayCols (frameOf ps bs))[offW ps i + j]? = some (colBy (pairsK (frameOf ps bs)) [(nameAt ps i, wayAt ps i j)]) := wayCol_at (F := frameOf ps bs) hi hj
  unfold allCols
  rw [List.getD_eq_getElem?_getD, List.getElem?_append_left (List.getElem?_eq_some_iff.mp e).1, e]
  rfl
theorem cols_bar {j : Nat} (hj : j < bs.length) : (allCols (frameOf ps bs)).getD (offW ps ps.length + j) [] = colOf (frameOf ps bs) (nameAt ps (bs.getD j ("", 0, 0)).2.1) (nameAt ps (bs.getD j ("", 0, 0)).2.2) := by
  have hl := wayCols_len (frameOf ps bs)
  have hl : (wayCols (frameOf ps bs)).length = offW ps ps.length := hl
  unfold allCols
  rw [List.getD_eq_getElem?_getD, List.getElem?_append_right (by omega), hl, Nat.add_sub_cancel_left]
  unfold barCols
  have : (frameOf ps bs).bars[j]? = some (barF ps (bs.getD j ("", 0, 0))) := by
    show (bs.map (barF ps))[j]? = _
    rw [List.getElem?_map, List.getD_eq_getElem?_getD, List.getElem?_eq_getElem hj]
    rfl
  rw [List.getElem?_map, this]
  rfl
theorem cols_len : (allCols (frameOf ps bs)).length = offW ps ps.length + bs.length := by
  have hl : (wayCols (frameOf ps bs)).length = offW ps ps.length := wayCols_len (frameOf ps bs)
  unfold allCols
  rw [List.length_append, barCols_len, hl]
  show _ + (bs.map _).length = _
  rw [List.length_map]
/-- a sum over all columns -/
theorem sum_cols (h : LOk ps bs) {k a : Nat} (hk : k < ps.length) (ha : a < 2) (x : Nat → Rat) :
    sumR (allCols (frameOf ps bs)).length (fun j => val (((allCols (frameOf ps bs)).getD j []).getD (2 * k + a) (0, 1)) * x j) =
      sumR (ps.getD k nilPin).ways.length (fun j => val (coordW (wayAt ps k j) a) * x (offW ps k + j)) +
      sumR bs.length (fun j => ((if (bs.getD j ("", 0, 0)).2.1 = k then val (armL ps (bs.getD j ("", 0, 0)) a) else 0) + (if (bs.getD j ("", 0, 0)).2.2 = k then - val (armL ps (bs.getD j ("", 0, 0)) a) else 0)) * x (offW ps ps.length + j)) := by
  rw [cols_len, sumR_split, sum_off ps _ ps.length (Nat.le_refl _)]
  congr 1
  · rw [sumR_single hk fun i hi ne => ?_]
    · refine sumR_congr fun j hj => ?_
      rw [cols_way h hk hj, way_entry h hk hk ha, if_pos rfl]
    · refine sumR_zero fun j hj => ?_
      rw [cols_way h hi hj, way_entry h hi hk ha, if_neg ne]
      grind
  · refine sumR_congr fun j hj => ?_
    have hbm : bs.getD j ("", 0, 0) ∈ bs := getD_mem hj
    obtain ⟨b1, b2, b3⟩ := h.bi _ hbm
    rw [cols_bar hj, bar_entry h b1 b2 b3 hk ha]
end
end Ty
set_option Elab.async false
set_option linter.all false
set_option maxRecDepth 100000
set_option maxHeartbeats 8000000
/-! The plain law, the end: the answer told is right. -/
namespace Ty
open PySem PySem.Spec L2
def toldD : TR → Dat
  | .mot m => .tup [.str "stiffer", .dK m]
  | .spa p k => .tup [.str "spare", .dK p, .dK (k.map fun kd => ((Sum.inr kd.1 : Key), Dat.lst kd.2))]
theorem range_getD {α β : Type} (f : α → β) (l : List α) (a : α) : (List.range l.length).map (fun k => f (l.getD k a)) = l.map f := by
  refine List.ext_getElem? fun i => ?_
  rw [List.getElem?_map, List.getElem?_map]
  by_cases h : i < l.length
  · rw [List.getElem?_range h, List.getElem?_eq_getElem h]
    show some (f (l.getD i a)) = _
    rw [List.getD_eq_getElem?_getD, List.getElem?_eq_getElem h]
    rfl
  · rw [List.getElem?_eq_none (by simpa using h), List.getElem?_eq_none (by omega)]
    rfl
theorem sum_pick {P i j : Nat} (hi : i < P) (hj : j < P) (Y : Nat → Rat) (u v : Rat) : sumR P (fun k => Y k * ((if i = k then u else 0) + (if j = k then v else 0))) = Y i * u + Y j * v := by
  have e : sumR P (fun k => Y k * ((if i = k then u else 0) + (if j = k then v else 0))) = sumR P (fun k => (if i = k then Y k * u else 0) + (if j = k then Y k * v else 0)) := sumR_congr fun k _ => by
    by_cases h1 : i = k <;> by_cases h2 : j = k <;> simp [h1, h2] <;> grind
  rw [e, sumR_add, sumR_if P i hi (fun k => Y k * u), sumR_if P j hj (fun k => Y k * v)]
theorem sum_pick1 {P i : Nat} (hi : i < P) (Y : Nat → Rat) (u : Rat) : sumR P (fun k => Y k * (if i = k then u else 0)) = Y i * u := by
  have e : sumR P (fun k => Y k * (if i = k then u else 0)) = sumR P (fun k => (if i = k then Y k * u else 0)) := sumR_congr fun k _ => by
    by_cases h1 : i = k <;> simp [h1] <;> grind
  rw [e, sumR_if P i hi (fun k => Y k * u)]
theorem rows_at {F : Frm} {cols : List (List Num)} {r j : Nat} (hr : r < 2 * F.pins.length) (hj : j < cols.length) : ((rowsBy F cols).getD r []).getD j (0, 1) = (cols.getD j []).getD r (0, 1) := by
  unfold rowsBy
  rw [List.getD_eq_getElem?_getD (l := (List.range _).map _), List.getElem?_map, List.getElem?_range hr]
  show (cols.map fun c => c.getD r (0, 1)).getD j (0, 1) = _
  rw [List.getD_eq_getElem?_getD, List.getElem?_map, List.getD_eq_getElem?_getD (l := cols), List.getElem?_eq_getElem hj]
  rfl
theorem turned_get {l : List Num} {k : Nat} (h : k < l.length) : (turned l).getD k (0, 1) = turnOf (l.getD k (0, 1)) := by
  unfold turned
  rw [List.getD_eq_getElem?_getD, List.getElem?_map, List.getD_eq_getElem?_getD, List.getElem?_eq_getElem h]
  rfl
theorem turned_len (l : List Num) : (turned l).length = l.length := List.length_map _
section
variable {ps : List Pin} {bs : List LBar} {n : Str} {i j : Nat}
/-- what stands about the question -/
structure AskOk (ps : List Pin) (bs : List LBar) (n : Str) (i j : Nat) : Prop where
  l : LOk ps bs
  bl : bs.length ≤ 7
  li : i < ps.length
  lj : j < ps.length
  ne : i ≠ j
  nn : ∀ b ∈ bs, b.1 ≠ n
  sb : ∀ b ∈ bs, PyData.strOk b.1 = true
  sp : ∀ p ∈ ps, PyData.strOk p.name = true
  sn : PyData.strOk n = true
abbrev solA (ps : List Pin) (bs : List LBar) (i j : Nat) : Bool × List Num := solOf (frameOf ps bs) (allCols (frameOf ps bs)) (colOf (frameOf ps bs) (nameAt ps i) (nameAt ps j))
def bigM : Nat := 3000000
theorem AskOk.col (h : AskOk ps bs n i j) : ColOk (frameOf ps bs) (allCols (frameOf ps bs)) (colOf (frameOf ps bs) (nameAt ps i) (nameAt ps j)) 131 := by
  have hb := h.bl
  exact cols_ok h.l.frm h.l.pl (by show (bs.map _).length ≤ 20; rw [List.length_map]; omega) (pinAt_ix h.l.pn h.li) (pinAt_ix h.l.pn h.lj)
theorem AskOk.m (h : AskOk ps bs n i j) : (allCols (frameOf ps bs)).length ≤ 17 := by
  have h1 : (wayCols (frameOf ps bs)).length ≤ 2 * ps.length := wayCols_le h.l.frm
  have h2 := h.l.pl
  have h3 := h.bl
  unfold allCols
  rw [List.length_append, barCols_len]
  show _ + (bs.map _).length ≤ 17
  rw [List.length_map]
  omega
theorem AskOk.good (h : AskOk ps bs n i j) : (∀ q ∈ turned (solA ps bs i j).2, Good bigM q ∧ Low q) ∧ (∀ q ∈ (solA ps bs i j).2, q.2 ≠ 0) ∧ ((solA ps bs i j).1 = true → (solA ps bs i j).2.length = 2 * ps.length) ∧ ((solA ps bs i j).1 = false → (solA ps bs i j).2.length = offW ps ps.length + bs.length) := by
  obtain ⟨s1, s2, s3⟩ := solve_good h.col.solve
  have hm := h.m
  refine ⟨fun q hq => ?_, fun q hq => good_ne (s1 q hq), fun hz => ?_, fun hz => ?_⟩
  · unfold turned at hq
    obtain ⟨p, hp, rfl⟩ := List.mem_map.mp hq
    have g := s1 p hp
    refine ⟨good_le (turn_good g) ?_, low_ratio (Int.mul_ne_zero (by decide) (good_ne g))⟩
    have : 131 * ((allCols (frameOf ps bs)).length + 2) ≤ 131 * 19 := Nat.mul_le_mul_left _ (by omega)
    unfold bigM
    omega
  · exact (s2 hz).trans (rowsBy_len _ _)
  · exact (s3 hz).trans cols_len
theorem wlen_le (h : AskOk ps bs n i j) {p : Pin} (hp : p ∈ ps) : p.ways.length ≤ 2 := h.l.frm.wl p hp
/-- spare: the forces told are right -/
theorem spare_ok (h : AskOk ps bs n i j) (hs : (solA ps bs i j).1 = false) : SpareOk ps bs n i j (toldD (.spa (kD (pullsOf (frameOf ps bs) n (turned (solA ps bs i j).2))) (kdD (pushesOf (frameOf ps bs) ((turned (solA ps bs i j).2).take (wayCols (frameOf ps bs)).length))))) := by
  obtain ⟨gN, gne, _, hlen⟩ := h.good
  have hlen := hlen hs
  have sok := solved_ok h.col.solve hs
  have hW : (wayCols (frameOf ps bs)).length = offW ps ps.length := wayCols_len (frameOf ps bs)
  rw [hW]
  have hsolL : (solA ps bs i j).2.length = (allCols (frameOf ps bs)).length := by rw [hlen, cols_len]
  obtain ⟨ns, hns⟩ : ∃ ns, ns = turned (solA ps bs i j).2 := ⟨_, rfl⟩
  have nl : ns.length = offW ps ps.length + bs.length := by rw [hns, turned_len, hlen]
  have nget : ∀ k, k < ns.length → val (ns.getD k (0, 1)) = - val ((solA ps bs i j).2.getD k (0, 1)) := fun k hk => by
    have hk2 : k < (solA ps bs i j).2.length := by rw [nl] at hk; rw [hlen]; exact hk
    rw [hns, turned_get hk2]
    exact val_turn (gne _ (getD_mem hk2))
  rw [← hns] at gN ⊢
  have nmem : ∀ k, k < ns.length → Good bigM (ns.getD k (0, 1)) ∧ Low (ns.getD k (0, 1)) := fun k hk => gN _ (getD_mem hk)
  have hgt : ∀ t, t < bs.length → (bs ++ [(n, i, j)]).getD t ("", 0, 0) = bs.getD t ("", 0, 0) := fun t ht => by
    rw [List.getD_eq_getElem?_getD, List.getElem?_append_left ht, ← List.getD_eq_getElem?_getD]
  have hgl : (bs ++ [(n, i, j)]).getD bs.length ("", 0, 0) = (n, i, j) := by
    rw [List.getD_eq_getElem?_getD, List.getElem?_append_right (Nat.le_refl _), Nat.sub_self]
    rfl
  have hll : (bs ++ [(n, i, j)]).length = bs.length + 1 := by simp
  obtain ⟨pu, hpu⟩ : ∃ pu : Nat → Num, pu = fun t => if t < bs.length then ns.getD (offW ps ps.length + t) (0, 1) else (1, 1) := ⟨_, rfl⟩
  obtain ⟨qu, hqu⟩ : ∃ qu : Nat → List Num, qu = fun k => ((ns.take (offW ps ps.length)).drop (offW ps k)).take (ps.getD k nilPin).ways.length := ⟨_, rfl⟩
  have pu1 : ∀ t, t < bs.length → pu t = ns.getD (offW ps ps.length + t) (0, 1) := fun t ht => by rw [hpu]; exact if_pos ht
  have pu2 : pu bs.length = (1, 1) := by rw [hpu]; exact if_neg (by omega)
  have g11 : Good bigM ((1 : Int), (1 : Int)) := ⟨sz_one.le (by decide), by decide⟩
  have qlen : ∀ k, k < ps.length → (qu k).length = (ps.getD k nilPin).ways.length := fun k hk => by
    have := offW_mono hk
    rw [hqu]
    dsimp only
    rw [List.length_take, List.length_drop, List.length_take]
    omega
  have qget : ∀ k, k < ps.length → ∀ t, t < (ps.getD k nilPin).ways.length → (qu k).getD t (0, 1) = ns.getD (offW ps k + t) (0, 1) := fun k hk t ht => by
    have := offW_mono hk
    rw [hqu]
    dsimp only
    rw [List.getD_eq_getElem?_getD, List.getElem?_take_of_lt ht, List.getElem?_drop, List.getElem?_take_of_lt (by omega), ← List.getD_eq_getElem?_getD]
  have qmem : ∀ k, ∀ q ∈ qu k, Good bigM q ∧ Low q := fun k q hq => by
    rw [hqu] at hq
    exact gN q (List.mem_of_mem_take (List.mem_of_mem_drop (List.mem_of_mem_take hq)))
  have gd : PinsGd ps := h.l.gd
  refine ⟨kD (pullsOf (frameOf ps bs) n ns), (kdD (pushesOf (frameOf ps bs) (ns.take (offW ps ps.length)))).map fun kd => ((Sum.inr kd.1 : Key), Dat.lst kd.2), pu, qu, bigM, rfl, ?_, ?_, pu2, ?_⟩
  · -- the keys and the values
    have hpulls : pullsOf (frameOf ps bs) n ns = (List.range (bs ++ [(n, i, j)]).length).map fun t => (((bs ++ [(n, i, j)]).getD t ("", 0, 0)).1, pu t) := by
      unfold pullsOf
      rw [hll, List.range_succ, List.map_append]
      have hbl : (frameOf ps bs).bars.length = bs.length := List.length_map _
      rw [hbl, hW]
      congr 1
      · refine List.map_congr_left fun t ht => ?_
        have ht := List.mem_range.mp ht
        rw [hgt t ht, pu1 t ht]
        have : (frameOf ps bs).bars.getD t nilBar = barF ps (bs.getD t ("", 0, 0)) := by
          show (bs.map (barF ps)).getD t nilBar = _
          rw [List.getD_eq_getElem?_getD, List.getElem?_map, List.getD_eq_getElem?_getD, List.getElem?_eq_getElem ht]
          rfl
        rw [this]
        rfl
      · show [(n, ((1 : Int), (1 : Int)))] = [(((bs ++ [(n, i, j)]).getD bs.length ("", 0, 0)).1, pu bs.length)]
        rw [hgl, pu2]
    have hkeys : (kD (pullsOf (frameOf ps bs) n ns)).map (·.1) = (bs ++ [(n, i, j)]).map (fun b => (Sum.inr b.1 : Key)) := by
      rw [hpulls]
      unfold kD
      rw [List.map_map, List.map_map, ← range_getD (fun b : LBar => (Sum.inr b.1 : Key)) (bs ++ [(n, i, j)]) ("", 0, 0)]
      rfl
    have hpk : (kdD (pushesOf (frameOf ps bs) (ns.take (offW ps ps.length)))).map (fun kd => ((Sum.inr kd.1 : Key), Dat.lst kd.2)) = (List.range ps.length).map fun k => ((Sum.inr (nameAt ps k) : Key), colD (qu k)) := by
      unfold kdD pushesOf
      rw [List.map_map, List.map_map]
      refine List.map_congr_left fun k hk => ?_
      rw [hqu]
      rfl
    have hqk : ((kdD (pushesOf (frameOf ps bs) (ns.take (offW ps ps.length)))).map (fun kd => ((Sum.inr kd.1 : Key), Dat.lst kd.2))).map (·.1) = ps.map (fun p => (Sum.inr p.name : Key)) := by
      rw [hpk, List.map_map, ← range_getD (fun p : Pin => (Sum.inr p.name : Key)) ps nilPin]
      rfl
    have inj : ∀ {l : List Str}, l.Nodup → (l.map (fun x => (Sum.inr x : Key))).Nodup := fun {l} hl => List.Pairwise.map _ (fun a b hab e => hab (by injection e)) hl
    have nd1 : ((kD (pullsOf (frameOf ps bs) n ns)).map (·.1)).Nodup := by
      rw [hkeys]
      have : (bs ++ [(n, i, j)]).map (fun b => (Sum.inr b.1 : Key)) = ((bs ++ [(n, i, j)]).map (fun b : LBar => b.1)).map (fun x => (Sum.inr x : Key)) := by rw [List.map_map]; rfl
      rw [this]
      refine inj ?_
      rw [List.map_append]
      refine List.nodup_append.mpr ⟨h.l.bn, List.nodup_cons.mpr ⟨by simp, List.nodup_nil⟩, fun a ha b hb e => ?_⟩
      obtain ⟨x, hx, rfl⟩ := List.mem_map.mp ha
      rw [List.map_singleton, List.mem_singleton] at hb
      exact h.nn x hx (e.trans hb)
    have nd2 : (((kdD (pushesOf (frameOf ps bs) (ns.take (offW ps ps.length)))).map (fun kd => ((Sum.inr kd.1 : Key), Dat.lst kd.2))).map (·.1)).Nodup := by
      rw [hqk]
      have : ps.map (fun p => (Sum.inr p.name : Key)) = (ps.map Pin.name).map (fun x => (Sum.inr x : Key)) := by rw [List.map_map]; rfl
      rw [this]
      exact inj h.l.pn
    refine ⟨hkeys, hqk, fun t b hb => ?_, fun k hk => ?_, fun t ht => ?_, fun k hk q hq => (qmem k q hq).2, fun b hb => ?_, h.sp⟩
    · have htl := (List.getElem?_eq_some_iff.mp hb).1
      refine valD_at nd1 (i := t) ?_
      rw [hpulls]
      unfold kD
      rw [List.getElem?_map, List.getElem?_map, List.getElem?_range htl]
      dsimp only [Option.map_some]
      rw [getD_of hb]
    · refine valD_at nd2 (i := k) ?_
      rw [hpk, List.getElem?_map, List.getElem?_range hk]
      rfl
    · rw [hll] at ht
      by_cases z : t < bs.length
      · rw [pu1 t z]
        exact (nmem _ (by omega)).2
      · rw [show t = bs.length by omega, pu2]
        exact ⟨by decide, by decide⟩
    · rcases List.mem_append.mp hb with hb | hb
      · exact h.sb b hb
      · rw [List.mem_singleton.mp hb]
        exact h.sn
  · refine ⟨gd, h.l.pl, by rw [hll]; have := h.bl; omega, fun b hb => ?_, fun p hp => wlen_le h hp, fun t ht => ?_, fun k hk => ⟨qlen k hk, fun q hq => (qmem k q hq).1⟩, Nat.le_refl _⟩
    · rcases List.mem_append.mp hb with hb | hb
      · exact h.l.bi b hb
      · rw [List.mem_singleton.mp hb]
        exact ⟨h.li, h.lj, h.ne⟩
    · rw [hll] at ht
      by_cases z : t < bs.length
      · rw [pu1 t z]
        exact (nmem _ (by omega)).1
      · rw [show t = bs.length by omega, pu2]
        exact g11
  · intro k hk a ha
    unfold totF
    rw [hll]
    show sumR bs.length _ + cB ps (bs ++ [(n, i, j)]) pu k a bs.length + _ = 0
    have hr : 2 * k + a < (rowsBy (frameOf ps bs) (allCols (frameOf ps bs))).length := by
      rw [rowsBy_len]
      show 2 * k + a < 2 * ps.length
      omega
    have key := sok (2 * k + a) hr
    have e1 : sumR (allCols (frameOf ps bs)).length (fun jc => val (((rowsBy (frameOf ps bs) (allCols (frameOf ps bs))).getD (2 * k + a) []).getD jc (0, 1)) * val ((solA ps bs i j).2.getD jc (0, 1))) = sumR (allCols (frameOf ps bs)).length (fun jc => val (((allCols (frameOf ps bs)).getD jc []).getD (2 * k + a) (0, 1)) * val ((solA ps bs i j).2.getD jc (0, 1))) := sumR_congr fun jc hjc => by
      rw [rows_at (by show 2 * k + a < 2 * ps.length; omega) hjc]
    have key2 : sumR (allCols (frameOf ps bs)).length (fun jc => val (((allCols (frameOf ps bs)).getD jc []).getD (2 * k + a) (0, 1)) * val ((solA ps bs i j).2.getD jc (0, 1))) = val ((colOf (frameOf ps bs) (nameAt ps i) (nameAt ps j)).getD (2 * k + a) (0, 1)) := by
      rw [← e1]
      exact key
    rw [sum_cols h.l hk ha, bar_entry h.l (b := (n, i, j)) h.li h.lj h.ne hk ha] at key2
    have o1 := offW_mono hk
    have f1 : sumR (ps.getD k nilPin).ways.length (cW ps qu k a) = (-1) * sumR (ps.getD k nilPin).ways.length (fun t => val (coordW (wayAt ps k t) a) * val ((solA ps bs i j).2.getD (offW ps k + t) (0, 1))) := by
      rw [← sumR_mul]
      refine sumR_congr fun t ht => ?_
      unfold cW
      rw [qget k hk t ht, nget _ (by omega)]
      grind
    have f2 : sumR bs.length (cB ps (bs ++ [(n, i, j)]) pu k a) = (-1) * sumR bs.length (fun t => ((if (bs.getD t ("", 0, 0)).2.1 = k then val (armL ps (bs.getD t ("", 0, 0)) a) else 0) + (if (bs.getD t ("", 0, 0)).2.2 = k then - val (armL ps (bs.getD t ("", 0, 0)) a) else 0)) * val ((solA ps bs i j).2.getD (offW ps ps.length + t) (0, 1))) := by
      rw [← sumR_mul]
      refine sumR_congr fun t ht => ?_
      unfold cB
      rw [hgt t ht, pu1 t ht, nget _ (by omega)]
      by_cases c1 : (bs.getD t ("", 0, 0)).2.1 = k <;> by_cases c2 : (bs.getD t ("", 0, 0)).2.2 = k <;> simp only [c1, c2, if_true, if_false] <;> grind
    have f3 : cB ps (bs ++ [(n, i, j)]) pu k a bs.length = (if (n, i, j).2.1 = k then val (armL ps (n, i, j) a) else 0) + (if (n, i, j).2.2 = k then - val (armL ps (n, i, j) a) else 0) := by
      unfold cB
      rw [hgl, pu2]
      have : val (1, 1) = 1 := by
        unfold val
        dsimp only
        grind
      rw [this]
      by_cases c1 : (n, i, j).2.1 = k <;> by_cases c2 : (n, i, j).2.2 = k <;> simp only [c1, c2, if_true, if_false] <;> grind
    rw [f1, f2, f3, ← key2]
    grind
/-- stiffer: the motion told is right -/
theorem stiff_ok (h : AskOk ps bs n i j) (hs : (solA ps bs i j).1 = true) : StiffOk ps bs n i j (toldD (.mot (motionK (frameOf ps bs) (turned (solA ps bs i j).2)))) := by
  obtain ⟨gN, gne, hlen, _⟩ := h.good
  have hlen := hlen hs
  obtain ⟨pk1, pk2⟩ := paper_ok h.col.solve hs
  have gd : PinsGd ps := h.l.gd
  obtain ⟨ns, hns⟩ : ∃ ns, ns = turned (solA ps bs i j).2 := ⟨_, rfl⟩
  have nl : ns.length = 2 * ps.length := by rw [hns, turned_len, hlen]
  have nget : ∀ k, k < ns.length → val (ns.getD k (0, 1)) = - val ((solA ps bs i j).2.getD k (0, 1)) := fun k hk => by
    have hk2 : k < (solA ps bs i j).2.length := by rw [nl] at hk; rw [hlen]; exact hk
    rw [hns, turned_get hk2]
    exact val_turn (gne _ (getD_mem hk2))
  rw [← hns] at gN ⊢
  have nmem : ∀ k, k < ns.length → Good bigM (ns.getD k (0, 1)) ∧ Low (ns.getD k (0, 1)) := fun k hk => gN _ (getD_mem hk)
  obtain ⟨mo, hmo⟩ : ∃ mo : Nat → Num × Num, mo = fun k => (ns.getD (2 * k) (0, 1), ns.getD (2 * k + 1) (0, 1)) := ⟨_, rfl⟩
  have mo1 : ∀ k, (mo k).1 = ns.getD (2 * k) (0, 1) := fun k => by rw [hmo]
  have mo2 : ∀ k, (mo k).2 = ns.getD (2 * k + 1) (0, 1) := fun k => by rw [hmo]
  have hmk : motionK (frameOf ps bs) ns = (List.range ps.length).map fun k => ((Sum.inr (nameAt ps k) : Key), way (mo k)) := by
    unfold motionK
    rw [hmo]
    rfl
  have hkeys : (motionK (frameOf ps bs) ns).map (·.1) = ps.map (fun p => (Sum.inr p.name : Key)) := by
    rw [hmk, List.map_map, ← range_getD (fun p : Pin => (Sum.inr p.name : Key)) ps nilPin]
    rfl
  have nd : ((motionK (frameOf ps bs) ns).map (·.1)).Nodup := by
    rw [hkeys]
    have : ps.map (fun p => (Sum.inr p.name : Key)) = (ps.map Pin.name).map (fun x => (Sum.inr x : Key)) := by rw [List.map_map]; rfl
    rw [this]
    exact List.Pairwise.map _ (fun a b hab e => hab (by injection e)) h.l.pn
  have gmo : ∀ k, k < ps.length → Good bigM (mo k).1 ∧ Good bigM (mo k).2 := fun k hk => by
    rw [mo1, mo2]
    exact ⟨(nmem _ (by omega)).1, (nmem _ (by omega)).1⟩
  have mok : MotOk ps (motionK (frameOf ps bs) ns) mo bigM := ⟨fun k hk => valD_at nd (i := k) (by rw [hmk, List.getElem?_map, List.getElem?_range hk]; rfl), gmo, Nat.le_refl _⟩
  obtain ⟨Y, hY⟩ : ∃ Y : Nat → Rat, Y = fun r => val ((solA ps bs i j).2.getD r (0, 1)) := ⟨_, rfl⟩
  have vm1 : ∀ k, k < ps.length → val (mo k).1 = - Y (2 * k) := fun k hk => by
    rw [mo1, nget _ (by omega), hY]
  have vm2 : ∀ k, k < ps.length → val (mo k).2 = - Y (2 * k + 1) := fun k hk => by
    rw [mo2, nget _ (by omega), hY]
  have hR : (rowsBy (frameOf ps bs) (allCols (frameOf ps bs))).length = 2 * ps.length := rowsBy_len _ _
  -- a bar's lengthening
  have hlong : ∀ b : LBar, b.2.1 < ps.length → b.2.2 < ps.length → b.2.1 ≠ b.2.2 → val (longL ps b mo) = sumR (2 * ps.length) (fun r => Y r * val ((colOf (frameOf ps bs) (nameAt ps b.2.1) (nameAt ps b.2.2)).getD r (0, 1))) ∧ (longL ps b mo).2 ≠ 0 := fun b b1 b2 b3 => by
    have ga := arm_gd gd b1 b2
    have gm : ∀ a, Good (bigM + bigM + 1) (moreL mo b a) := fun a => by
      have c : ∀ t, t < ps.length → Good bigM (coordW (mo t) a) := fun t ht => by
        unfold coordW
        split
        · exact (gmo t ht).1
        · exact (gmo t ht).2
      exact good_sum (c _ b2) (good_turnL (c _ b1))
    have t0 := good_times (ga 0) (gm 0)
    have t1 := good_times (ga 1) (gm 1)
    refine ⟨?_, good_ne (good_sum t0 t1)⟩
    rw [sumR_two]
    have e : sumR ps.length (fun k => Y (2 * k) * val ((colOf (frameOf ps bs) (nameAt ps b.2.1) (nameAt ps b.2.2)).getD (2 * k) (0, 1)) + Y (2 * k + 1) * val ((colOf (frameOf ps bs) (nameAt ps b.2.1) (nameAt ps b.2.2)).getD (2 * k + 1) (0, 1))) =
        sumR ps.length (fun k => Y (2 * k) * ((if b.2.1 = k then val (armL ps b 0) else 0) + (if b.2.2 = k then - val (armL ps b 0) else 0)) + Y (2 * k + 1) * ((if b.2.1 = k then val (armL ps b 1) else 0) + (if b.2.2 = k then - val (armL ps b 1) else 0))) := sumR_congr fun k hk => by
      have x0 := bar_entry h.l b1 b2 b3 hk (show 0 < 2 by decide)
      have x1 := bar_entry h.l b1 b2 b3 hk (show 1 < 2 by decide)
      rw [Nat.add_zero] at x0
      rw [x0, x1]
    rw [e, sumR_add, sum_pick b1 b2 (fun k => Y (2 * k)), sum_pick b1 b2 (fun k => Y (2 * k + 1))]
    show val (sumL (timesL (armL ps b 0) (moreL mo b 0)) (timesL (armL ps b 1) (moreL mo b 1))) = _
    rw [val_sum (good_ne t0) (good_ne t1), val_times (good_ne (ga 0)) (good_ne (gm 0)), val_times (good_ne (ga 1)) (good_ne (gm 1))]
    have m0 : val (moreL mo b 0) = val (mo b.2.2).1 - val (mo b.2.1).1 := by
      show val (sumL (mo b.2.2).1 (turnL (mo b.2.1).1)) = _
      rw [val_sum (good_ne (gmo _ b2).1) (good_ne (good_turnL (gmo _ b1).1)), val_turnL]
      grind
    have m1 : val (moreL mo b 1) = val (mo b.2.2).2 - val (mo b.2.1).2 := by
      show val (sumL (mo b.2.2).2 (turnL (mo b.2.1).2)) = _
      rw [val_sum (good_ne (gmo _ b2).2) (good_ne (good_turnL (gmo _ b1).2)), val_turnL]
      grind
    rw [m0, m1, vm1 _ b1, vm1 _ b2, vm2 _ b1, vm2 _ b2]
    grind
  have hcol : ∀ jc, jc < (allCols (frameOf ps bs)).length → sumR (2 * ps.length) (fun r => Y r * val (((allCols (frameOf ps bs)).getD jc []).getD r (0, 1))) = 0 := fun jc hjc => by
    have := pk1 jc hjc
    rw [hR] at this
    rw [← this]
    refine sumR_congr fun r hr => ?_
    rw [rows_at (F := frameOf ps bs) hr hjc, hY]
    rfl
  have hdue : sumR (2 * ps.length) (fun r => Y r * val ((colOf (frameOf ps bs) (nameAt ps i) (nameAt ps j)).getD r (0, 1))) = 1 := by
    rw [hR] at pk2
    rw [← pk2, hY]
    rfl
  refine ⟨_, mo, bigM, rfl, mok, hkeys, h.sp, fun k hk => ?_, fun b hb => ?_, fun k p hp w hw => ?_, ?_⟩
  · rw [mo1, mo2]
    exact ⟨(nmem _ (by omega)).2, (nmem _ (by omega)).2⟩
  · obtain ⟨t, ht⟩ := List.mem_iff_getElem?.mp hb
    have htl := (List.getElem?_eq_some_iff.mp ht).1
    obtain ⟨b1, b2, b3⟩ := h.l.bi b hb
    obtain ⟨e1, e2⟩ := hlong b b1 b2 b3
    refine (val_zero e2).mp ?_
    have := hcol (offW ps ps.length + t) (by rw [cols_len]; omega)
    rw [cols_bar htl, getD_of ht] at this
    rw [e1, this]
  · have hkl := (List.getElem?_eq_some_iff.mp hp).1
    obtain ⟨t, ht⟩ := List.mem_iff_getElem?.mp hw
    have htl := (List.getElem?_eq_some_iff.mp ht).1
    have hpk : ps.getD k nilPin = p := getD_of hp
    have hwa : wayAt ps k t = w := by
      unfold wayAt
      rw [hpk, getD_of ht]
    obtain ⟨_, _, gw⟩ := gd p (get_mem hp)
    obtain ⟨gw1, gw2⟩ := gw w hw
    have t0 := good_times gw1 (gmo k hkl).1
    have t1 := good_times gw2 (gmo k hkl).2
    have hden : (dotL w (mo k)).2 ≠ 0 := good_ne (good_sum t0 t1)
    refine (val_zero hden).mp ?_
    have o1 := offW_mono hkl
    have := hcol (offW ps k + t) (by rw [cols_len]; rw [hpk] at o1; omega)
    rw [cols_way h.l hkl (by rw [hpk]; exact htl), sumR_two] at this
    have e : sumR ps.length (fun k' => Y (2 * k') * val ((colBy (pairsK (frameOf ps bs)) [(nameAt ps k, wayAt ps k t)]).getD (2 * k') (0, 1)) + Y (2 * k' + 1) * val ((colBy (pairsK (frameOf ps bs)) [(nameAt ps k, wayAt ps k t)]).getD (2 * k' + 1) (0, 1))) =
        sumR ps.length (fun k' => Y (2 * k') * (if k = k' then val w.1 else 0) + Y (2 * k' + 1) * (if k = k' then val w.2 else 0)) := sumR_congr fun k' hk' => by
      have x0 := way_entry h.l (w := wayAt ps k t) hkl hk' (show 0 < 2 by decide)
      have x1 := way_entry h.l (w := wayAt ps k t) hkl hk' (show 1 < 2 by decide)
      rw [Nat.add_zero] at x0
      rw [x0, x1, hwa]
      rfl
    rw [e, sumR_add, sum_pick1 hkl (fun k => Y (2 * k)), sum_pick1 hkl (fun k => Y (2 * k + 1))] at this
    show val (sumL (timesL w.1 (mo k).1) (timesL w.2 (mo k).2)) = 0
    rw [val_sum (good_ne t0) (good_ne t1), val_times (good_ne gw1) (good_ne (gmo k hkl).1), val_times (good_ne gw2) (good_ne (gmo k hkl).2), vm1 k hkl, vm2 k hkl]
    grind
  · obtain ⟨e1, e2⟩ := hlong (n, i, j) h.li h.lj h.ne
    refine (val_one e2).mp ?_
    rw [e1]
    exact hdue
theorem tell_right (h : AskOk ps bs n i j) : SpareOk ps bs n i j (toldD (tellOf (frameOf ps bs) n (nameAt ps i) (nameAt ps j))) ∨ StiffOk ps bs n i j (toldD (tellOf (frameOf ps bs) n (nameAt ps i) (nameAt ps j))) := by
  have e : tellOf (frameOf ps bs) n (nameAt ps i) (nameAt ps j) = if (solA ps bs i j).1 = true then .mot (motionK (frameOf ps bs) (turned (solA ps bs i j).2)) else .spa (kD (pullsOf (frameOf ps bs) n (turned (solA ps bs i j).2))) (kdD (pushesOf (frameOf ps bs) ((turned (solA ps bs i j).2).take (wayCols (frameOf ps bs)).length))) := rfl
  rw [e]
  by_cases hs : (solA ps bs i j).1 = true
  · rw [if_pos hs]
    exact .inr (stiff_ok h hs)
  · rw [if_neg hs]
    exact .inl (spare_ok h (by simpa using hs))
end
end Ty
set_option Elab.async false
set_option linter.all false
set_option maxRecDepth 100000
set_option maxHeartbeats 4000000
/-! _law_full. -/
namespace Ty
open PySem PySem.Spec PyProof.Rows L2
/-- a frame with m bars more between two pins -/
def frameMore (ps : List Pin) (bs : List LBar) (i j m : Nat) : Frm := ⟨ps, bs.map (barF ps) ++ (List.range m).map fun k => (moreN k, nameAt ps i, nameAt ps j)⟩
structure FullOk (ps : List Pin) (bs : List LBar) (i j : Nat) : Prop where
  l : LOk ps bs
  nm : NmOk ps bs
  hd : ∀ b ∈ bs, b.1.cps.toList.head? ≠ some 109
  li : i < ps.length
  lj : j < ps.length
  ne : i ≠ j
section
variable {ps : List Pin} {bs : List LBar} {i j m : Nat}
theorem more_not (h : FullOk ps bs i j) (hm : m ≤ 60) {n : Str} (h1 : ∀ b ∈ bs, b.1 ≠ n) (h2 : ∀ k, k < m → moreN k ≠ n) : (frameMore ps bs i j m).barAt n = none := by
  unfold Frm.barAt frameMore
  refine List.find?_eq_none.mpr fun b hb => ?_
  rw [Bool.not_eq_true]
  rcases List.mem_append.mp hb with hb | hb
  · obtain ⟨x, hx, rfl⟩ := List.mem_map.mp hb
    exact decide_eq_false (h1 x hx)
  · obtain ⟨k, hk, rfl⟩ := List.mem_map.mp hb
    exact decide_eq_false (h2 k (List.mem_range.mp hk))
theorem more_new (h : FullOk ps bs i j) (hm : m ≤ 60) : (frameMore ps bs i j m).barAt "new" = none :=
  more_not h hm h.nm.n fun k hk => (more_head k (by omega)).2.1
theorem more_pin1 (h : FullOk ps bs i j) : (frameMore ps bs i j m).pinAt (nameAt ps i) = some (ps.getD i nilPin) := pinAt_ix (bs := (frameMore ps bs i j m).bars) h.l.pn h.li
theorem more_pin2 (h : FullOk ps bs i j) : (frameMore ps bs i j m).pinAt (nameAt ps j) = some (ps.getD j nilPin) := pinAt_ix (bs := (frameMore ps bs i j m).bars) h.l.pn h.lj
theorem more_zz (h : FullOk ps bs i j) : (frameMore ps bs i j m).pinAt "zz" = none := pinAt_not (ps := ps) (bs := bs) fun p hp => (h.nm.z p hp).2
theorem more_len : (frameMore ps bs i j m).bars.length = bs.length + m := by
  show (bs.map (barF ps) ++ (List.range m).map fun k => (moreN k, nameAt ps i, nameAt ps j)).length = _
  simp
theorem more_dif (h : FullOk ps bs i j) : nameAt ps i ≠ nameAt ps j := fun e => h.ne (name_inj h.l.pn h.li h.lj e)
theorem ask_more (h : FullOk ps bs i j) (hm : m + bs.length < 60) : askOf (frameMore ps bs i j m) (moreN m) (nameAt ps i) (nameAt ps j) = none := by
  have hb : (frameMore ps bs i j m).barAt (moreN m) = none := more_not h (by omega) (fun b hb e => h.hd b hb (by rw [e]; exact (more_head m (by omega)).1)) fun k hk => more_ne k (by omega) m (by omega) (by omega)
  unfold askOf
  rw [hb, more_pin1 h, more_pin2 h, if_neg (by decide), if_neg (fun z => by cases z), if_neg (fun z => by cases z), if_neg (more_dif h), if_neg (by rw [more_len]; omega)]
theorem add_more : (frameMore ps bs i j m).addBar (moreN m, nameAt ps i, nameAt ps j) = frameMore ps bs i j (m + 1) := by
  unfold Frm.addBar frameMore
  rw [List.range_succ, List.map_append, List.append_assoc]
  rfl
theorem ask_many (h : FullOk ps bs i j) (hm : bs.length + m = 60) : askOf (frameMore ps bs i j m) "new" (nameAt ps i) (nameAt ps j) = some .many := by
  unfold askOf
  rw [more_new h (by omega), more_pin1 h, more_pin2 h, if_neg (by decide), if_neg (fun z => by cases z), if_neg (fun z => by cases z), if_neg (more_dif h), if_pos (by rw [more_len]; omega)]
theorem ask_nopin (h : FullOk ps bs i j) (hm : m ≤ 60) : askOf (frameMore ps bs i j m) "new" "zz" "zz" = some (.pin "zz") := by
  unfold askOf
  rw [more_new h hm, more_zz h]
  rfl
theorem ask_nolen (h : FullOk ps bs i j) (hm : m ≤ 60) : askOf (frameMore ps bs i j m) "new" (nameAt ps i) (nameAt ps i) = some (.len "new") := by
  unfold askOf
  rw [more_new h hm, more_pin1 h, if_neg (by decide), if_neg (fun z => by cases z), if_neg (fun z => by cases z), if_pos rfl]
theorem ask_there (h : FullOk ps bs i j) (hm : 0 < m) {x y : Str} : askOf (frameMore ps bs i j m) "more0" x y = some (.bar "more0") := by
  have : ((frameMore ps bs i j m).barAt "more0").isSome = true := by
    unfold Frm.barAt frameMore
    refine List.find?_isSome.mpr ⟨(moreN 0, nameAt ps i, nameAt ps j), List.mem_append_right _ (List.mem_map.mpr ⟨0, List.mem_range.mpr hm, rfl⟩), decide_eq_true ?_⟩
    show moreN 0 = "more0"
    decide +kernel
  unfold askOf
  rw [if_pos this]
theorem more_frm (h : FullOk ps bs i j) (hm : m + bs.length ≤ 60) : FrmOk (frameMore ps bs i j m) := by
  have f := h.l.frm
  refine ⟨f.pn, ?_, fun b hb => ?_, f.pl, by rw [more_len]; omega, f.wl, f.gd⟩
  · show ((bs.map (barF ps) ++ (List.range m).map fun k => (moreN k, nameAt ps i, nameAt ps j)).map (·.1)).Nodup
    rw [List.map_append, List.map_map, List.map_map]
    refine List.nodup_append.mpr ⟨h.l.bn, ?_, fun x hx y hy e => ?_⟩
    · refine List.Pairwise.map _ (fun a b hab => ?_) (List.Pairwise.and_mem.mp (List.nodup_range (n := m)))
      obtain ⟨ha, hb, hab⟩ := hab
      exact more_ne a (by have := List.mem_range.mp ha; omega) b (by have := List.mem_range.mp hb; omega) hab
    · obtain ⟨b, hb, rfl⟩ := List.mem_map.mp hx
      obtain ⟨k, hk, rfl⟩ := List.mem_map.mp hy
      have hk := List.mem_range.mp hk
      exact h.hd b hb (by rw [show b.1 = moreN k from e]; exact (more_head k (by omega)).1)
  · rcases List.mem_append.mp hb with hb | hb
    · exact f.be b hb
    · obtain ⟨k, hk, rfl⟩ := List.mem_map.mp hb
      exact ⟨⟨_, more_pin1 h⟩, ⟨_, more_pin2 h⟩⟩
end
theorem more_size : ∀ k : Nat, k < 60 → ("more" : Str).length + ((toString (k : Int) : String) : Str).length ≤ 1000 := by decide +kernel
/-! four texts and truths, equal -/
def fourPy (a b : Str) : PyData := .list [.str a, .str b, .bool true, .bool false]
theorem toPy_four (a b : Str) : toPy (.lst [.str a, .str b, .bl true, .bl false]) = some (fourPy a b) := by simp [toPy, toPys, fourPy]
theorem shaped_four {a b : Str} (ha : PyData.strOk a = true) (hb : PyData.strOk b = true) : SeqAt.shaped (fourPy a b) = true := shaped_list fun d hd => by
  simp only [List.mem_cons, List.not_mem_nil, or_false] at hd
  rcases hd with rfl | rfl | rfl | rfl
  · exact ⟨by simp [PyData.canLay0, ha], by simp [PyData.depth]⟩
  · exact ⟨by simp [PyData.canLay0, hb], by simp [PyData.depth]⟩
  · exact ⟨by simp [PyData.canLay0], by simp [PyData.depth]⟩
  · exact ⟨by simp [PyData.canLay0], by simp [PyData.depth]⟩
theorem eqv_four (a b : Str) : PyData.eqv (fourPy a b) (fourPy a b) = true := by simp [fourPy, PyData.eqv, PyData.eqvAll]
theorem rv_ne4 {S : Sys} {a b : Str} (ha : PyData.strOk a = true) (hb : PyData.strOk b = true) : RvD S (rNeD S.K) (.lst [.str a, .str b, .bl true, .bl false]) (.lst [.str a, .str b, .bl true, .bl false]) (.bl false) := by
  have := rv_neD (S := S) (toPy_four a b) (toPy_four a b) (shaped_four ha hb) (shaped_four ha hb)
  rwa [eqv_four] at this
theorem rv_eq4 {S : Sys} {a b : Str} (ha : PyData.strOk a = true) (hb : PyData.strOk b = true) : RvD S (rEqD S.K) (.lst [.str a, .str b, .bl true, .bl false]) (.lst [.str a, .str b, .bl true, .bl false]) (.bl true) := by
  have := rv_eqD (S := S) (toPy_four a b) (toPy_four a b) (shaped_four ha hb) (shaped_four ha hb)
  rwa [eqv_four] at this
section
variable {S : Sys} {t : TS} {a : Addr} {G : Gam} {F : Frm} {P : Gam → Frm → Prop} {te : TE}
theorem rf_for_range {i : Nat} {n : Nat} (hl : EvD S te G (.int (n : Int))) (hn : n ≤ 1000) (I : Nat → Gam → Frm → Prop) (h0 : I 0 G F)
    (hs : ∀ (k : Nat) (G : Gam) (F : Frm), k < n → I k G F → RunF S t a (G.set i (some (.int (k : Int)))) F (I (k + 1))) (hd : ∀ G F, I n G F → P G F) : RunF S (tFor (iRng1 (tCons te tNil)) (gName i) t) a G F P := fun σ H1 H Ds e E fp q => by
  refine hl σ H1 H e E _ fun H2 H' v s dv => ?_
  cases dv
  refine ⟨(n : Int), rfl, by omega, by omega, for_range (lo := 0) (n := (n : Int).toNat) (fun k σ3 H3 => ∃ H4 G3 F3, Same H2 H4 ∧ Same H4 H3 ∧ EnvD S H4 σ3 G3 ∧ FrP S H4 H3 a F3 ∧ I k G3 F3) ⟨H2, G, F, Same.refl _, s.s2, E.mono s.s1, fp.step s, h0⟩ ?_ ?_⟩
  · rintro k σ3 H3 hk ⟨H4, G3, F3, s3, s4, E3, fp3, i3⟩
    rw [show (0 : Int) + (k : Int) = (k : Int) from Int.zero_add _]
    exact hs k G3 F3 (by omega) i3 (σ3.set i (some (.int (k : Int)))) H4 H3 _ s4 (E3.set (.int _)) fp3 fun G5 F5 σ5 H5 H5' i5 t1 t2 E5 fp5 => ⟨H5, G5, F5, s3.trans t1, t2, E5, fp5, i5⟩
  · rintro σ3 H3 ⟨H4, G3, F3, s3, s4, E3, fp3, i3⟩
    rw [Int.toNat_natCast] at i3
    exact q G3 F3 σ3 H4 H3 (hd G3 F3 i3) (s.s1.trans s3) s4 E3 fp3
/-- a name told anew -/
theorem EnvD.told {H : Hp} {σ : L2.St} {i : Nat} {v : V} {d : Dat} (h : EnvD S H σ G) (hi : σ[i]? = some (some v)) (q : Dt S H v d) : EnvD S H σ (G.set i (some d)) := ⟨by rw [List.length_set]; exact h.len, fun j d' hj => by
  by_cases z : j = i
  · subst z
    have hl : j < G.length := by
      have := (List.getElem?_eq_some_iff.mp hj).1
      rwa [List.length_set] at this
    rw [List.getElem?_set_self hl] at hj
    cases hj
    exact ⟨v, hi, q⟩
  · rw [List.getElem?_set_ne (Ne.symm z)] at hj
    exact h.at_ j d' hj⟩
end
section
variable {Pr : Program} {w : World} {K : PySem.W.Frag} {mg : Str → Option Value} {base : Heap}
theorem te_call {sp : Sp} {E0 : XK} {ta : TA} {σ : L2.St} {H : Hp} {Q : VK} (h : ta σ H fun vs H1 => sp (vs ++ []) H1 Q E0) : tCall sp [] E0 ta σ H Q := h
theorem ed_asked {G : Gam} {t1 t2 : TE} {E0 : XK} {F : Frm} {n x y : Str} {e : Err} (h1 : EvD (sysOf K) t1 G (.frm F)) (h2 : EvD (sysOf K) t2 G (.lst [.str n, .str x, .str y])) (ok : FrmOk F) (h5 : F.pins.length ≤ 5) (ha : askOf F n x y = some e) :
    EvD (sysOf K) (tCall (Sp_asked K) [] E0 (tCons t1 (tCons t2 tNil))) G (errD e) := fun σ H1 H e' E Q q =>
  te_call ((ea_cons h1 (ea_cons h2 ea_nil)) σ H1 H e' E _ fun H2 H' vs s dvs =>
    ⟨H2, F, n, x, y, s.s2, (by rw [List.append_nil]; exact dvs), ok, h5, (fun z => by rw [ha] at z; cases z), fun er he H3 H'' v s3 dv => by rw [ha] at he; cases he; exact q _ _ _ (s.trans s3) dv⟩)
def Sp_law_full (S : Sys) : Sp := fun vs H Q _ => ∃ H1 a u1 u2 u3 u4 ps bs i j, vs = [.ref a, u1, u2, u3, u4] ∧ Same H1 H ∧ FrP S H1 H a (frameOf ps bs) ∧ DtA S H1 [u1, u2, u3, u4] [pinsT ps, barsT bs, .lst [.str "new", .str (nameAt ps i), .str (nameAt ps j)], .lst [.int (i : Nat), .int (j : Nat)]] ∧ FullOk ps bs i j ∧ ∀ H', Q (.bl true) H'
theorem ok_law_full (T : Txt K mg) (B : Bas Pr base) (X : Exq K) : FnOk Pr w K mg base CX0 49 (He.ga K "_law_full") (fdAt K (He.ga K "_law_full")) ["_law_frame_here", "_law_pins_here", "_law_bars_here", "_law_new_here", "_law_ends"] (Sp_law_full (sysOf K)) := by
  refine FunD.ok T.F_law_full sc_law_full (fun vs H Q E h => ?_) (fun cdv A outer s H vs Q E hr h => ?_)
  · obtain ⟨H1, a, u1, u2, u3, u4, ps, bs, i, j, rfl, _⟩ := h
    rfl
  · obtain ⟨H1, a, u1, u2, u3, u4, ps, bs, i, j, rfl, e, fp, dv, ok, q⟩ := h
    refine ⟨_, PSs.nox (pss_cons (ps_for PassesOwn.never rfl (pi_range1 rfl T.n_range (pa_cons (pe_op op_sub pe_int (pe_callB call_len_seq (by rfl) T.n_len (by decide +kernel) (pa_cons (pv 2) pa_nil))) pa_nil)) (pg_name (i := 5) (sc_law_full).nd rfl (Or.inl rfl)) (pss_one (ps_expr (pe_meth (pv 0) T.cl_Frame T.m_Frame_put_bar (ok_Frame_put_bar T B X) (hr.mono (by decide)) T.b_Frame_put_bar .nil pass0 (pa_cons (pe_op op_add_str pe_str (pe_callTy call_str_int (by rfl) T.n_str (by decide +kernel) (pa_cons (pv 5) pa_nil))) (pa_cons (pe_ix ix_tup (pe_ix ix_list (pv 1) (pe_ix ix_list (pv 4) pe_int (fun _ _ => rfl)) (fun _ _ => rfl)) pe_int (fun _ _ => rfl)) (pa_cons (pe_ix ix_tup (pe_ix ix_list (pv 1) (pe_ix ix_list (pv 4) pe_int (fun _ _ => rfl)) (fun _ _ => rfl)) pe_int (fun _ _ => rfl)) pa_nil))))))) (pss_cons (ps_set (i := 6) (sc_law_full).nd rfl (Or.inl rfl) (pe_ix ix_list (pv 3) pe_int (fun _ _ => rfl))) (pss_cons (ps_set (i := 7) (sc_law_full).nd rfl (Or.inl rfl) (pe_lst (pa_cons pe_str (pa_cons pe_str (pa_cons pe_bl (pa_cons pe_bl pa_nil)))))) (pss_cons (ps_if (PW.pt (pw_or (pt_cmpR (op_neD hr.units) (pe_call (ok_law_asked T B X) (hr.mono (by decide)) rfl T.g_law_asked T.F_law_asked.kp T.b_law_asked .nil pass0 (pa_cons (pv 0) (pa_cons (pv 3) pa_nil))) (pv 7) (nomark _)) (pw_or1 (pt_cmpR (op_neD hr.units) (pe_call (ok_law_asked T B X) (hr.mono (by decide)) rfl T.g_law_asked T.F_law_asked.kp T.b_law_asked .nil pass0 (pa_cons (pv 0) (pa_cons (pe_lst (pa_cons pe_str (pa_cons pe_str (pa_cons pe_str pa_nil)))) pa_nil))) (pe_lst (pa_cons pe_str (pa_cons pe_str (pa_cons pe_bl (pa_cons pe_bl pa_nil))))) (nomark _))))) (pss_one (ps_ret pe_bl)) pss_nil) (pss_cons (ps_if (pt_cmpR (op_neD hr.units) (pe_call (ok_law_asked T B X) (hr.mono (by decide)) rfl T.g_law_asked T.F_law_asked.kp T.b_law_asked .nil pass0 (pa_cons (pv 0) (pa_cons (pe_lst (pa_cons pe_str (pa_cons (pv 6) (pa_cons (pv 6) pa_nil)))) pa_nil))) (pe_lst (pa_cons pe_str (pa_cons pe_str (pa_cons pe_bl (pa_cons pe_bl pa_nil))))) (nomark _)) (pss_one (ps_ret pe_bl)) pss_nil) (pss_cons (ps_set (i := 8) (sc_law_full).nd rfl (Or.inl rfl) (pe_call (ok_law_asked T B X) (hr.mono (by decide)) rfl T.g_law_asked T.F_law_asked.kp T.b_law_asked .nil pass0 (pa_cons (pv 0) (pa_cons (pe_lst (pa_cons pe_str (pa_cons pe_str (pa_cons (pv 6) pa_nil)))) pa_nil)))) (pss_one (ps_ret (pe_and (pe_cmpR (op_eqD hr.units) (pv 8) (pe_lst (pa_cons pe_str (pa_cons pe_str (pa_cons pe_bl (pa_cons pe_bl pa_nil))))) (nomark _)) (pe_one (pe_cmpR op_eq (pe_callB call_len_seq (by rfl) T.n_len (by decide +kernel) (pa_cons (pe_meth0 (pv 0) T.cl_Frame T.m_Frame_bars (ok_Frame_bars T B) (hr.mono (by decide)) T.b_Frame_bars .nil pass0) pa_nil)) pe_int (nomark _)))))))))))), ?_⟩
    have E1 := env_start (S := sysOf K) (N := ["_law_frame_here", "_law_pins_here", "_law_bars_here", "_law_new_here", "_law_ends", "_law_k", "_law_one", "_law_due", "_law_told"]) (ds := [.ptr a, pinsT ps, barsT bs, .lst [.str "new", .str (nameAt ps i), .str (nameAt ps j)], .lst [.int (i : Nat), .int (j : Nat)]]) (.cons (.ptr a) dv)
    have hbl := ok.l.bl
    have hpl := ok.l.pl
    refine raw_seq ((rf_for_range (S := sysOf K) (P := fun G F => ∃ x5 x6 x7 x8, G = [some (.ptr a), some (pinsT ps), some (barsT bs), some (.lst [.str "new", .str (nameAt ps i), .str (nameAt ps j)]), some (.lst [.int (i : Nat), .int (j : Nat)]), x5, x6, x7, x8] ∧ F = frameMore ps bs i j (60 - bs.length)) (i := 5) (n := 60 - bs.length) ((ed_op ed_int (ed_lenB (ed_var (i := 2) rfl)) rv_sub).to (by rw [Int.ofNat_sub (by omega)]; rfl)) (by omega) (fun k G F => ∃ x5 x6 x7 x8, G = [some (.ptr a), some (pinsT ps), some (barsT bs), some (.lst [.str "new", .str (nameAt ps i), .str (nameAt ps j)]), some (.lst [.int (i : Nat), .int (j : Nat)]), x5, x6, x7, x8] ∧ F = frameMore ps bs i j k) ⟨_, _, _, _, rfl, ?_⟩ ?_ ?_) _ H1 H _ e E1 fp ?_)
    · unfold frameOf frameMore
      simp
    · rintro k G F hk ⟨x5, x6, x7, x8, rfl, rfl⟩
      have pn : ∀ {G : Gam} {z : Int} {j : Nat} {l : List Dat}, G[1]? = some (some (pinsT ps)) → G[4]? = some (some (.lst l)) → atI l z = some (.int (j : Int)) → j < ps.length → EvD (sysOf K) (tOp (rIxT K) (tOp (rIxL K) (tVar 1) (tOp (rIxL K) (tVar 4) (tC (.int z)))) (tC (.int 0))) G (.str (nameAt ps j)) := fun {G z j l} h0 hi hz hj =>
        ed_op (ed_op (ed_var h0) (ed_op (ed_var hi) ed_int (rv_ixL hz)) (rv_ixL (z := pinT (ps.getD j nilPin)) (pin_at hj rfl))) ed_int (rv_ixT (ds := [.str _, spotD _, waysD _]) rfl)
      refine rf_bar (i := 0) rfl (ed_op ed_str (ed_cb (ea_cons (ed_var (i := 5) rfl) ea_nil) (rc_str (Nat.lt_of_lt_of_le (show (k : Int).natAbs < 2 ^ 6 by omega) (Nat.pow_le_pow_right (by decide) (by decide))))) (rv_addS ?_)) (pn rfl rfl rfl ok.li) (pn rfl rfl rfl ok.lj) (ask_more ok (by omega)) ⟨_, _, _, _, rfl, add_more⟩
      have := more_size k (by omega)
      show ("more" : Str).length + _ ≤ 100000
      exact Nat.le_trans this (by decide)
    · exact fun G F h => h
    · rintro G F σ2 H2 H2' ⟨x5, x6, x7, x8, rfl, rfl⟩ s1 s2 E2 fp2
      obtain ⟨Hf, f1, f2, fd⟩ := fp2.dt s2
      have fr := more_frm ok (m := 60 - bs.length) (by omega)
      obtain ⟨v, hv1, hv2⟩ := E2.at_ 0 (.ptr a) rfl
      cases hv2
      have E3 := (E2.mono f1).told hv1 fd
      have a1 := ask_many ok (m := 60 - bs.length) (by omega)
      have a2 := ask_nopin ok (m := 60 - bs.length) (by omega)
      have a3 := ask_nolen ok (m := 60 - bs.length) (by omega)
      have a4 := fun x y => ask_there ok (m := 60 - bs.length) (x := x) (y := y) (by omega)
      have hlen : (frameMore ps bs i j (60 - bs.length)).bars.length = 60 := by rw [more_len]; omega
      have hp5 : (frameMore ps bs i j (60 - bs.length)).pins.length ≤ 5 := hpl
      dsimp only
      have sk : ∀ x : Str, x = "TooMany" ∨ x = "" ∨ x = "NoPin" ∨ x = "zz" ∨ x = "NoLength" ∨ x = "new" ∨ x = "BarThere" ∨ x = "more0" → PyData.strOk x = true := by
        rintro x (rfl | rfl | rfl | rfl | rfl | rfl | rfl | rfl) <;> decide +kernel
      refine (?_ : RunD (sysOf K) _ [some (.frm (frameMore ps bs i j (60 - bs.length))), some (pinsT ps), some (barsT bs), some (.lst [.str "new", .str (nameAt ps i), .str (nameAt ps j)]), some (.lst [.int (i : Nat), .int (j : Nat)]), x5, x6, x7, x8] (fun o => o = .rt (.bl true))) σ2 Hf H2' _ f2 E3 ⟨(fun G p => by cases p), (fun d p H3 H3' v s dv => by cases p; cases dv; exact q _), (fun G p => by cases p), (fun G p => by cases p)⟩
      have due4 : ∀ {G : Gam} {x y : Str} {p q : Bool}, EvD (sysOf K) (tLst (tCons (tC (.str x)) (tCons (tC (.str y)) (tCons (tC (.bl p)) (tCons (tC (.bl q)) tNil))))) G (.lst [.str x, .str y, .bl p, .bl q]) := ed_lst (ea_cons ed_str (ea_cons ed_str (ea_cons ed_bl (ea_cons ed_bl ea_nil))))
      refine rd_seq (rd_set (d := .str (nameAt ps i)) (ed_op (ed_var rfl) ed_int (rv_ixL rfl)) ?_)
      refine rd_seq (rd_set due4 ?_)
      refine rd_seq (rd_if (b := false) (et_or (a := false) (b := false) (et_test (ed_op (ed_asked (ed_var rfl) (ed_var rfl) fr hp5 a1) (ed_var rfl) (rv_ne4 (sk _ (by simp)) (sk _ (by simp))))) fun _ => et_test (ed_op (ed_asked (ed_var rfl) (ed_lst (ea_cons ed_str (ea_cons ed_str (ea_cons ed_str ea_nil)))) fr hp5 a2) due4 (rv_ne4 (sk _ (by simp)) (sk _ (by simp))))) (fun h => by cases h) fun _ => rd_next ?_)
      refine rd_seq (rd_if (b := false) (et_test (ed_op (ed_asked (ed_var rfl) (ed_lst (ea_cons ed_str (ea_cons (ed_var rfl) (ea_cons (ed_var rfl) ea_nil)))) fr hp5 a3) due4 (rv_ne4 (sk _ (by simp)) (sk _ (by simp))))) (fun h => by cases h) fun _ => rd_next ?_)
      refine rd_seq (rd_set (ed_asked (ed_var rfl) (ed_lst (ea_cons ed_str (ea_cons ed_str (ea_cons (ed_var rfl) ea_nil)))) fr hp5 (a4 _ _)) ?_)
      refine rd_ret (ed_andV (a := true) (b := true) (ed_op (ed_var rfl) due4 (rv_eq4 (sk _ (by simp)) (sk _ (by simp)))) fun _ => ?_) rfl
      refine (ed_op (ed_cb (ea_cons (ed_meth (ed_var (i := 0) rfl) ea_nil ⟨_, rfl, rfl⟩) ea_nil) (rc_lenL (ds := (frameMore ps bs i j (60 - bs.length)).bars.map fun b => .str b.1))) ed_int rv_eqI).to ?_
      rw [List.length_map, hlen]
      rfl
end
end Ty
set_option Elab.async false
set_option linter.all false
set_option maxRecDepth 100000
set_option maxHeartbeats 4000000
/-! What the walk of law needs: the names, what is told as data, statements with the frame beside. -/
namespace Ty
open PySem PySem.Spec PyProof.Rows L2
theorem nm_okB : ((List.range 3).all fun s => (List.range 6).all fun a => (List.range 8).all fun k => PyData.strOk (nmS s a k)) = true := by decide +kernel
theorem nm_ok {s a k : Nat} (hs : s < 3) (ha : a < 6) (hk : k < 8) : PyData.strOk (nmS s a k) = true := by
  have h := nm_okB
  simp only [List.all_eq_true, List.mem_range] at h
  exact h s hs a ha k hk
theorem name_ok (c : Int) {k : Nat} (hk : k < 8) : PyData.strOk (nameL c k) = true := by
  obtain ⟨s0, s1⟩ := field_lt c 3001 3 (by decide)
  obtain ⟨a0, a1⟩ := field_lt c 4001 6 (by decide)
  exact nm_ok (by omega) (by omega) hk
theorem names_nodup {α : Type} (f : α → Str) {c : Int} {l : List α} (h : ∀ k a, l[k]? = some a → f a = nameL c k) (hl : l.length ≤ 8) : (l.map f).Nodup := by
  refine List.pairwise_iff_getElem.mpr fun i j hi hj hij => ?_
  rw [List.length_map] at hi hj
  rw [List.getElem_map, List.getElem_map, h i _ (List.getElem?_eq_getElem hi), h j _ (List.getElem?_eq_getElem hj)]
  exact name_ne c (by omega) (by omega) (by omega)
theorem name_of {α : Type} (f : α → Str) {c : Int} {l : List α} (h : ∀ k a, l[k]? = some a → f a = nameL c k) (hl : l.length ≤ 8) {a : α} (ha : a ∈ l) : ∃ k, k < 8 ∧ f a = nameL c k := by
  obtain ⟨k, hk⟩ := List.mem_iff_getElem?.mp ha
  exact ⟨k, by have := (List.getElem?_eq_some_iff.mp hk).1; omega, h k a hk⟩
section
variable {c1 c2 : Int} {ps : List Pin} {bs : List LBar}
theorem lok_of (h1 : PinsOk c1 ps) (hp : ps.length ≤ 5) (h2 : BarsOk ps.length c2 bs) (hb : bs.length ≤ 7) : LOk ps bs :=
  ⟨names_nodup Pin.name h1.nm (by omega), h1.sn, hp, fun p m => (h1.wk p m).1, fun p m => ⟨(h1.bx p m).1.good (by decide), (h1.bx p m).2.good (by decide), (h1.wk p m).2⟩, names_nodup (fun b : LBar => b.1) h2.nm (by omega), h2.bi, by omega⟩
theorem nm_of (h1 : PinsOk c1 ps) (hp : ps.length ≤ 5) (h2 : BarsOk ps.length c2 bs) (hb : bs.length ≤ 7) : NmOk ps bs :=
  ⟨fun p m => by
    obtain ⟨k, hk, e⟩ := name_of Pin.name h1.nm (by omega) m
    obtain ⟨_, _, z, zz, _⟩ := name_not c1 hk
    rw [e]
    exact ⟨z, zz⟩, fun b m => by
    obtain ⟨k, hk, e⟩ := name_of (fun b : LBar => b.1) h2.nm (by omega) m
    rw [show b.1 = nameL c2 k from e]
    exact (name_not c2 hk).1, fun b m => by
    obtain ⟨k, hk, e⟩ := name_of (fun b : LBar => b.1) h2.nm (by omega) m
    rw [show b.1 = nameL c2 k from e]
    exact name_ok c2 hk⟩
theorem full_of (h1 : PinsOk c1 ps) (hp : ps.length ≤ 5) (h2 : BarsOk ps.length c2 bs) (hb : bs.length ≤ 7) {i j : Nat} (li : i < ps.length) (lj : j < ps.length) (ne : i ≠ j) : FullOk ps bs i j :=
  ⟨lok_of h1 hp h2 hb, nm_of h1 hp h2 hb, fun b m => by
    obtain ⟨k, hk, e⟩ := name_of (fun b : LBar => b.1) h2.nm (by omega) m
    rw [show b.1 = nameL c2 k from e]
    exact (name_not c2 hk).2.2.2.2, li, lj, ne⟩
theorem askok_of (h1 : PinsOk c1 ps) (hp : ps.length ≤ 5) (h2 : BarsOk ps.length c2 bs) (hb : bs.length ≤ 7) {i j : Nat} (li : i < ps.length) (lj : j < ps.length) (ne : i ≠ j) {n : Str} (hn : n = "new" ∨ n = "other") : AskOk ps bs n i j :=
  ⟨lok_of h1 hp h2 hb, hb, li, lj, ne, fun b m => by
    obtain ⟨k, hk, e⟩ := name_of (fun b : LBar => b.1) h2.nm (by omega) m
    rw [show b.1 = nameL c2 k from e]
    rcases hn with rfl | rfl
    · exact (name_not c2 hk).1
    · exact (name_not c2 hk).2.1, fun b m => by
    obtain ⟨k, hk, e⟩ := name_of (fun b : LBar => b.1) h2.nm (by omega) m
    rw [show b.1 = nameL c2 k from e]
    exact name_ok c2 hk, fun p m => by
    obtain ⟨k, hk, e⟩ := name_of Pin.name h1.nm (by omega) m
    rw [e]
    exact name_ok c1 hk, by rcases hn with rfl | rfl <;> decide +kernel⟩
theorem AskOk.none {n : Str} {i j : Nat} (h : AskOk ps bs n i j) : askOf (frameOf ps bs) n (nameAt ps i) (nameAt ps j) = none := by
  have hb := barAt_not (ps := ps) h.nn
  have h7 := h.bl
  unfold askOf
  rw [hb, show (frameOf ps bs).pinAt (nameAt ps i) = _ from pinAt_ix h.l.pn h.li, show (frameOf ps bs).pinAt (nameAt ps j) = _ from pinAt_ix h.l.pn h.lj, if_neg (by decide), if_neg (fun z => by cases z), if_neg (fun z => by cases z), if_neg (fun e => h.ne (name_inj h.l.pn h.li h.lj e)), if_neg]
  show ¬ 60 ≤ (bs.map _).length
  rw [List.length_map]
  omega
end
/-! what is told, as data -/
def merge (H2 H' : Hp) (l : List Addr) : Hp := fun b => if b ∈ l then H' b else H2 b
theorem merge_in {H2 H' : Hp} {l : List Addr} {b : Addr} (h : b ∈ l) : merge H2 H' l b = H' b := if_pos h
theorem merge_step {H1 H H2 H' : Hp} {l : List Addr} (s : Step H1 H H2 H') (h : ∀ b ∈ l, H b = none ∧ H2 b = none) : Step H1 H (merge H2 H' l) H' ∧ Same H2 (merge H2 H' l) := by
  have h2 : Same H2 (merge H2 H' l) := fun b o hb => by
    unfold merge
    rw [if_neg]
    · exact hb
    · intro m
      rw [(h b m).2] at hb
      cases hb
  refine ⟨⟨s.s1.trans h2, fun b o hb => ?_, s.s3, fun b o hb => ?_⟩, h2⟩
  · unfold merge at hb
    split at hb
    · exact hb
    · exact s.s2 _ _ hb
  · unfold merge at hb
    split at hb
    · exact .inr (h b (by assumption)).1
    · exact s.fr _ _ hb
theorem zip_dt {S : Sys} {H H2 : Hp} : ∀ {kls : List (Str × List Dat)} {ls : List Addr}, ls.length = kls.length → (∀ (i : Nat) (a : Addr) (kd : Str × List Dat), ls[i]? = some a → kls[i]? = some kd → ∃ vs, H a = some (.lst vs) ∧ DtA S H vs kd.2) → DtK S H (zipK kls ls) (kls.map fun kd => ((Sum.inr kd.1 : Key), Dat.lst kd.2))
  | [], [], _, _ => .nil
  | kd :: kls, a :: ls, hl, h => by
    obtain ⟨vs, h1, h2⟩ := h 0 a kd rfl rfl
    exact .cons (.lst h1 h2) (zip_dt (H2 := H2) (by simpa using hl) fun i a' kd' e1 e2 => h (i + 1) a' kd' e1 e2)
/-- the answer, its parts apart -/
structure ToldP (S : Sys) (r : TR) (H1 H : Hp) (v : V) (H2 H' : Hp) (l : List Addr) (d : Dat) : Prop where
  st : Step H1 H H2 H'
  ap : ∀ b ∈ l, H b = none ∧ H2 b = none
  dt : Dt S H2 v d
  mg : Dt S (merge H2 H' l) v (toldD r)
theorem told_parts {S : Sys} {r : TR} {H1 H : Hp} {v : V} {H' : Hp} (p : ToldAt S r H1 H v H') : ∃ H3, Step H1 H H3 H' ∧ Dt S H3 v (toldD r) := by
  cases r with
  | mot m =>
    obtain ⟨H2, D, o, st, n0, n2, ho, ow, dv⟩ := p
    have ap : ∀ b ∈ [D], H b = none ∧ H2 b = none := fun b hb => by
      rw [List.mem_singleton.mp hb]
      exact ⟨n0, n2⟩
    obtain ⟨s1, s2⟩ := merge_step st ap
    refine ⟨_, s1, ?_⟩
    cases ow with
    | K hk =>
      cases dv with
      | tup ha hd =>
        cases hd with
        | cons d1 t1 =>
          cases t1 with
          | cons d2 t2 =>
            cases t2
            cases d1
            cases d2
            exact .tup (sqT_mono s2 ha) (.cons (.str _) (.cons (.dK ((merge_in List.mem_cons_self).trans ho) (hk.mono s2)) .nil))
  | spa q k =>
    obtain ⟨H2, D1, o, D2, ls, st, n0, n2, ho, ow, pu, nm, dv⟩ := p
    have ap : ∀ b ∈ D1 :: D2 :: ls, H b = none ∧ H2 b = none := fun b hb => by
      rcases List.mem_cons.mp hb with rfl | hb
      · exact ⟨n0, n2⟩
      · exact pu.fr b hb
    obtain ⟨s1, s2⟩ := merge_step st ap
    refine ⟨_, s1, ?_⟩
    cases ow with
    | K hk =>
      cases dv with
      | tup ha hd =>
        cases hd with
        | cons d1 t1 =>
          cases t1 with
          | cons d2 t2 =>
            cases t2 with
            | cons d3 t3 =>
              cases t3
              cases d1
              cases d2
              cases d3
              refine .tup (sqT_mono s2 ha) (.cons (.str _) (.cons (.dK ((merge_in List.mem_cons_self).trans ho) (hk.mono s2)) (.cons (.dK ((merge_in (List.mem_cons_of_mem _ List.mem_cons_self)).trans pu.dk) (zip_dt (H2 := H2) pu.len fun i a kd e1 e2 => ?_)) .nil)))
              obtain ⟨vs, h1, h2⟩ := pu.it i a kd e1 e2
              exact ⟨vs, (merge_in (List.mem_cons_of_mem _ (List.mem_cons_of_mem _ (get_mem e1)))).trans h1, h2.mono s2⟩
section
variable {Pr : Program} {w : World} {K : PySem.W.Frag} {mg : Str → Option Value} {base : Heap}
theorem ed_askedT {G : Gam} {t1 t2 : TE} {E0 : XK} {F : Frm} {n x y : Str} (h1 : EvD (sysOf K) t1 G (.frm F)) (h2 : EvD (sysOf K) t2 G (.lst [.str n, .str x, .str y])) (ok : FrmOk F) (h5 : F.pins.length ≤ 5) (ha : askOf F n x y = none) (hb : F.bars.length ≤ 20) :
    EvD (sysOf K) (tCall (Sp_asked K) [] E0 (tCons t1 (tCons t2 tNil))) G (toldD (tellOf F n x y)) := fun σ H1 H e' E Q q =>
  te_call ((ea_cons h1 (ea_cons h2 ea_nil)) σ H1 H e' E _ fun H2 H' vs s dvs =>
    ⟨H2, F, n, x, y, s.s2, (by rw [List.append_nil]; exact dvs), ok, h5, (fun _ => ⟨hb, fun v H3 p => by
      obtain ⟨H4, st, dv⟩ := told_parts p
      exact q _ _ _ (s.trans st) dv⟩), fun er he => by rw [ha] at he; cases he⟩)
end
/-! statements with the frame beside: its name holds a place, and the frame stands there as data -/
def RunG (S : Sys) (a : Addr) (F : Frm) (ts : TS) (G : Gam) (P : Gam → Prop) : Prop := ∀ σ H1 H (Ds : Ends), Same H1 H → EnvD S H1 σ G → Dt S H1 (.ref a) (.frm F) → (∀ G' σ' H2 H', P G' → Step H1 H H2 H' → EnvD S H2 σ' G' → Ds.nx σ' H') → ts Ds σ H
section
variable {S : Sys} {t u : TS} {a : Addr} {G : Gam} {F : Frm} {P : Gam → Prop} {te : TE} {c : TT} {d : Dat} {i : Nat}
theorem told_frame {H1 : Hp} {σ : L2.St} (hi : G[3]? = some (some (.ptr a))) (E : EnvD S H1 σ G) (fd : Dt S H1 (.ref a) (.frm F)) : EnvD S H1 σ (G.set 3 (some (.frm F))) := by
  obtain ⟨v, hv1, hv2⟩ := E.at_ 3 _ hi
  cases hv2
  exact E.told hv1 fd
theorem rg_seq (h : RunG S a F t G fun G' => RunG S a F u G' P) : RunG S a F (tSeq t u) G P := fun σ H1 H Ds e E fd q =>
  h σ H1 H { Ds with nx := u Ds } e E fd fun G' σ' H2 H' r s E' => r σ' H2 H' Ds s.s2 E' (fd.mono s.s1) fun G3 σ3 H3 H3' p t E3 => q G3 σ3 H3 H3' p (s.trans t) E3
theorem rg_set (hi : G[3]? = some (some (.ptr a))) (h : EvD S te (G.set 3 (some (.frm F))) d) (p : P (G.set i (some d))) : RunG S a F (tAsg te (gName i)) G P := fun σ H1 H Ds e E fd q =>
  h σ H1 H e (told_frame hi E fd) _ fun H2 H' v s dv => q _ _ H2 H' p s ((E.mono s.s1).set dv)
theorem rg_ifn (hi : G[3]? = some (some (.ptr a))) (h : EvT S c (G.set 3 (some (.frm F))) false) (p : P G) : RunG S a F (tIfS c t tNext) G P := fun σ H1 H Ds e E fd q =>
  h σ H1 H e (told_frame hi E fd) _ fun H2 H' s => iteF (q _ _ H2 H' p s (E.mono s.s1))
theorem rg_for_list {g : TG} {ds : List Dat} (hi : G[3]? = some (some (.ptr a))) (hl : EvD S te (G.set 3 (some (.frm F))) (.lst ds)) (I : Nat → Gam → Prop) (h0 : I 0 G)
    (hs : ∀ (k : Nat) (d : Dat) (G : Gam), ds[k]? = some d → I k G → ∃ G', TgD S g d G G' ∧ RunG S a F t G' (I (k + 1))) (hd : ∀ G, I ds.length G → P G) : RunG S a F (tFor (iList S.K te) g t) G P := fun σ H1 H Ds e E fd q => by
  refine hl σ H1 H e (told_frame hi E fd) _ fun H2 H' v s dv => ?_
  cases dv with
  | @lst l xs _ ha hA =>
    refine ⟨l, rfl, ⟨xs, SqL.of (s.s2 _ _ ha)⟩, for_list (K := S.K) (a := l) (xs := xs) (fun i σ3 H3 => ∃ H4 G3, Step H2 H' H4 H3 ∧ EnvD S H4 σ3 G3 ∧ I i G3) ⟨H2, G, Step.refl s.s2, E.mono s.s1, h0⟩ (fun i σ3 H3 _ ⟨H4, G3, s3, _⟩ => SqL.of (s3.s2 _ _ (s3.s1 _ _ ha))) ?_ ?_⟩
    · rintro i x σ3 H3 hx ⟨H4, G3, s3, E3, i3⟩
      obtain ⟨d, hd', hv⟩ := hA.getV hx
      obtain ⟨G', tg, rb⟩ := hs i d G3 hd' i3
      refine tg x σ3 H4 H3 s3.s2 E3 (hv.mono s3.s1) _ fun σ4 E4 => ?_
      exact rb σ4 H4 H3 _ s3.s2 E4 (fd.mono (s.s1.trans s3.s1)) fun G5 σ5 H5 H5' i5 t5 E5 => ⟨H5, G5, s3.trans t5, E5, i5⟩
    · rintro σ3 H3 ⟨H4, G3, s3, E3, i3⟩
      rw [hA.length] at i3
      exact q G3 σ3 H4 H3 (hd G3 i3) (s.trans s3) E3
end
end Ty
set_option Elab.async false
set_option linter.all false
set_option maxRecDepth 100000
set_option maxHeartbeats 4000000
/-! The law changes what it was told: lists get a number more, dicts are cleared. -/
namespace Ty
open PySem PySem.Spec PyProof.Rows L2
section
variable {S : Sys} {G : Gam} {σ : L2.St}
theorem wr_append {td ty te : TE} {D L : Addr} {k : Key} {x : Dat} {kvs : List (Key × V)} {vs : List V} {Ds : Ends} {H4 H3 : Hp} (h1 : EvD S td G (.ptr D)) (h2 : EvD S ty G (keyD k)) (h3 : EvD S te G x) (e : Same H4 H3) (E : EnvD S H4 σ G) (hD : H3 D = some (.dK kvs)) (hk : valV kvs k = some (.ref L)) (hL : H3 L = some (.lst vs)) (hl : vs.length < 100000)
    (q : ∀ H5 H5' v, Step H4 H3 H5 H5' → Ds.nx σ (upd H5' L (.lst (vs ++ [v])))) : tDrop (tBM S.K "list" rAppend (tDGet td ty) (tCons te tNil)) Ds σ H3 := by
  refine h1 σ H4 H3 e E _ fun H5 H5' v s1 d1 => h2 σ H5 H5' s1.s2 (E.mono s1.s1) _ fun H6 H6' y s2 d2 => ?_
  cases d1
  have st := s1.trans s2
  rw [keyV_of d2]
  refine ⟨D, .ref L, rfl, by rw [← hk]; exact DGet.k (st.s3 _ _ hD), ?_⟩
  refine ⟨.inl ⟨rfl, _, SqL.of (st.s3 _ _ hL)⟩, ?_⟩
  refine h3 σ H6 H6' st.s2 (E.mono st.s1) _ fun H7 H7' u s3 d3 => ?_
  have st3 := st.trans s3
  exact ⟨L, vs, u, rfl, rfl, st3.s3 _ _ hL, by rw [sizeLine_eq]; omega, q _ _ _ st3⟩
theorem wr_clear {D : Addr} {kvs : List (Key × V)} {i : Nat} {Ds : Ends} {H : Hp} (hi : σ[i]? = some (some (.ref D))) (hD : H D = some (.dK kvs)) (q : Ds.nx σ (upd H D (.dK []))) : tDrop (tBM0 S.K "dict" rDClear (tVar i)) Ds σ H :=
  ⟨_, hi, .inr (.inr (.inl ⟨rfl, .inl ⟨_, hD⟩⟩)), D, kvs, rfl, rfl, hD, q⟩
theorem same_upd2 {H1 H : Hp} {D : Addr} {o : HO} (e : Same H1 H) (h : H1 D = none) : Same H1 (upd H D o) := fun b u hb => by
  have : b ≠ D := fun z => by rw [z, h] at hb; cases hb
  rw [upd_ne this]
  exact e _ _ hb
theorem DtA.ptrs {H : Hp} : ∀ {v : List V} {l : List Addr}, DtA S H v (l.map .ptr) → v = l.map V.ref
  | [], [], _ => rfl
  | _ :: _, _ :: _, .cons h t => by
    cases h
    rw [DtA.ptrs t]
    rfl
theorem te_slT {lo : Int} {H : Hp} {Q : VK} {v : V} {i : Nat} (hi : σ[i]? = some (some v)) (h : rSlT S.K v (some lo) none H Q) : tSl (rSlT S.K) (tVar i) (tPart (tC (.int lo))) tNoPart σ H Q := ⟨v, hi, lo, rfl, h⟩
theorem raw_tupF {te : TE} {g : TG} {t : TS} {Ds : Ends} {H : Hp} (h : te σ H fun x H1 => ∃ a, x = .ref a ∧ (∃ xs, SqT S.K H1 a xs) ∧ ∃ W : Nat → Nat → L2.St → Hp → Prop, (∃ m, W 0 m σ H1) ∧ ∀ i m σ H, W i m σ H →
  ((Itt S.K a).stop i H ∧ Ds.nx σ H) ∨ ((Itt S.K a).go i H ∧ ∃ N : L2.St → Hp → Prop, (∀ σ' H', N σ' H' → ∃ m', m' < m ∧ W (i + 1) m' σ' H') ∧ ∀ x H', (Itt S.K a).yld i H x H' → g x σ H' fun σ2 H2 => t { Ds with nx := N, ct := N, bk := Ds.nx } σ2 H2)) : tFor (iTup S.K te) g t Ds σ H := h
theorem cut1 {w : Str} : ∀ {Dl : List Addr}, 0 < Dl.length → Dl.length ≤ 2 → cutV (.str w :: Dl.map V.ref) (some 1) none = Dl.map V.ref ∧ ¬ (HT.sIx (V.str w :: Dl.map V.ref).length 0 (some 1) = 0 ∧ HT.sIx (V.str w :: Dl.map V.ref).length (V.str w :: Dl.map V.ref).length none = (V.str w :: Dl.map V.ref).length)
  | [a], _, _ => ⟨rfl, fun h => absurd (show HT.sIx 2 0 (some 1) = 0 from h.1) (by decide)⟩
  | [a, b], _, _ => ⟨rfl, fun h => absurd (show HT.sIx 3 0 (some 1) = 0 from h.1) (by decide)⟩
  | [], h, _ => absurd h (by decide)
  | _ :: _ :: _ :: _, _, h => absurd h (by simp)
theorem wr_clear11 {D : Addr} {kvs : List (Key × V)} {Ds : Ends} {H : Hp} (hl : 11 < σ.length) (hD : H D = some (.dK kvs)) (q : Ds.nx (σ.set 11 (some (.ref D))) (upd H D (.dK []))) : gName 11 (.ref D) σ H fun σ2 H2 => tDrop (tBM0 S.K "dict" rDClear (tVar 11)) Ds σ2 H2 :=
  wr_clear (List.getElem?_set_self hl) hD q
def CLI (S : Sys) (G : Gam) (H2 Hb : Hp) (Dl : List Addr) (t : Addr) (_ : Nat) (σ3 : L2.St) (H3 : Hp) : Prop := ∃ x, Same H2 H3 ∧ Same Hb H3 ∧ EnvD S H2 σ3 (G.set 11 x) ∧ H3 t = some (.tup (Dl.map V.ref)) ∧ ∀ D ∈ Dl, ∃ kvs, H3 D = some (.dK kvs)
theorem cli_step {Dl : List Addr} {H2 Hb H3 : Hp} {t D : Addr} {k : Nat} {σ3 : L2.St} (h11 : 11 < G.length) (hd : ∀ D ∈ Dl, H2 D = none ∧ Hb D = none) (hm : D ∈ Dl) (c : CLI S G H2 Hb Dl t k σ3 H3) : 11 < σ3.length ∧ ∃ kvs, H3 D = some (.dK kvs) ∧ CLI S G H2 Hb Dl t (k + 1) (σ3.set 11 (some (.ref D))) (upd H3 D (.dK [])) := by
  obtain ⟨x0, s1, s2, E3, h3, h4⟩ := c
  obtain ⟨n1, n2⟩ := hd D hm
  obtain ⟨kvs, hk⟩ := h4 D hm
  have E4 : EnvD S H2 (σ3.set 11 (some (.ref D))) (G.set 11 (some (.ptr D))) := by
    have := E3.set (i := 11) (v := .ref D) (.ptr D)
    rwa [List.set_set] at this
  refine ⟨by rw [E3.len, List.length_set]; exact h11, kvs, hk, _, same_upd2 s1 n1, same_upd2 s2 n2, E4, ?_, fun D' hD' => ?_⟩
  · rw [upd_ne (fun z => by rw [z, hk] at h3; cases h3)]
    exact h3
  · by_cases z : D' = D
    · subst z
      exact ⟨_, upd_same⟩
    · rw [upd_ne z]
      exact h4 D' hD'
theorem cli_loop {Dl : List Addr} {Ds : Ends} {H2 Hb H : Hp} {t : Addr} (h11 : 11 < G.length) (hd : ∀ D ∈ Dl, H2 D = none ∧ Hb D = none) (c : CLI S G H2 Hb Dl t 0 σ H) (q : ∀ σ' H' x, Same H2 H' → Same Hb H' → EnvD S H2 σ' (G.set 11 x) → Ds.nx σ' H') :
    ∃ W : Nat → Nat → L2.St → Hp → Prop, (∃ m, W 0 m σ H) ∧ ∀ i m σ H, W i m σ H →
      ((Itt S.K t).stop i H ∧ Ds.nx σ H) ∨ ((Itt S.K t).go i H ∧ ∃ N : L2.St → Hp → Prop, (∀ σ' H', N σ' H' → ∃ m', m' < m ∧ W (i + 1) m' σ' H') ∧ ∀ x H', (Itt S.K t).yld i H x H' → gName 11 x σ H' fun σ2 H2 => tDrop (tBM0 S.K "dict" rDClear (tVar 11)) { Ds with nx := N, ct := N, bk := Ds.nx } σ2 H2) := by
  refine for_tup (K := S.K) (a := t) (xs := Dl.map V.ref) (CLI S G H2 Hb Dl t) c (fun i σ3 H3 _ ⟨_, _, _, _, h, _⟩ => SqT.of h) ?_ ?_
  · intro k x σ3 H3 hx c3
    obtain ⟨D, hD, rfl⟩ := map_get hx
    obtain ⟨hl, kvs, hk, c4⟩ := cli_step h11 hd (get_mem hD) c3
    exact wr_clear11 hl hk c4
  · rintro σ3 H3 ⟨x0, s1, s2, E3, _⟩
    exact q σ3 H3 x0 s1 s2 E3
theorem cli_start {Dl : List Addr} {H2 Hb H : Hp} {t : Addr} (E : EnvD S H2 σ G) (e : Same H2 H) (eb : Same Hb H) (h11 : 11 < G.length) (hd : ∀ D ∈ Dl, ∃ kvs, H D = some (.dK kvs)) (ht : H t = none) : CLI S G H2 Hb Dl t 0 σ (upd H t (.tup (Dl.map V.ref))) := by
  refine ⟨G[11], e.trans (same_new ht), eb.trans (same_new ht), ?_, upd_same, fun D hD => ?_⟩
  · rw [List.set_getElem_self]
    exact E
  · obtain ⟨kvs, hk⟩ := hd D hD
    exact ⟨kvs, (same_new ht) _ _ hk⟩
theorem wr_clears {Dl : List Addr} {w : Str} {Ds : Ends} {H2 Hb H : Hp} (hg : G[7]? = some (some (.tup (.str w :: Dl.map .ptr)))) (E : EnvD S H2 σ G) (e : Same H2 H) (eb : Same Hb H) (h11 : 11 < G.length) (hd : ∀ D ∈ Dl, H2 D = none ∧ Hb D = none) (hk : ∀ D ∈ Dl, ∃ kvs, H D = some (.dK kvs)) (hn : 0 < Dl.length) (hn2 : Dl.length ≤ 2)
    (q : ∀ σ' H' x, Same H2 H' → Same Hb H' → EnvD S H2 σ' (G.set 11 x) → Ds.nx σ' H') : tFor (iTup S.K (tSl (rSlT S.K) (tVar 7) (tPart (tC (.int 1))) tNoPart)) (gName 11) (tDrop (tBM0 S.K "dict" rDClear (tVar 11))) Ds σ H := by
  obtain ⟨v, hv1, hv2⟩ := E.at_ 7 _ hg
  have hv : ∃ p, v = .ref p ∧ SqT S.K H2 p (.str w :: Dl.map V.ref) := by
    cases hv2 with
    | @tup p xs _ ha hA =>
      cases hA with
      | cons d0 t0 =>
        cases d0
        have := t0.ptrs
        subst this
        exact ⟨p, rfl, ha⟩
  obtain ⟨p, rfl, ha⟩ := hv
  obtain ⟨c1, c2⟩ := cut1 (w := w) hn hn2
  refine raw_tupF (te_slT hv1 ⟨p, _, rfl, sqT_mono e ha, c2, fun t ht => ?_⟩)
  rw [c1]
  exact ⟨t, rfl, ⟨_, SqT.of upd_same⟩, cli_loop h11 hd (cli_start E e eb h11 hk ht) q⟩
end
end Ty
set_option Elab.async false
set_option linter.all false
set_option maxRecDepth 100000
set_option maxHeartbeats 400000
/-! The law changes what it was told: each list of pushes gets a number more. -/
namespace Ty
open PySem PySem.Spec PyProof.Rows L2
section
variable {S : Sys} {G : Gam} {σ : L2.St}
theorem wr_len {td ty : TE} {D L : Addr} {k : Key} {kvs : List (Key × V)} {vs : List V} {H4 H3 : Hp} {Q : VK} (h1 : EvD S td G (.ptr D)) (h2 : EvD S ty G (keyD k)) (e : Same H4 H3) (E : EnvD S H4 σ G) (hD : H3 D = some (.dK kvs)) (hk : valV kvs k = some (.ref L)) (hL : H3 L = some (.lst vs))
    (q : ∀ H5 H5', Step H4 H3 H5 H5' → Q (.int vs.length) H5') : tCB (fun xs H Q => ∃ p ys, xs = [V.ref p] ∧ (SqL S.K H p ys ∨ SqT S.K H p ys) ∧ Q (.int ys.length) H) (tCons (tDGet td ty) tNil) σ H3 Q := by
  refine h1 σ H4 H3 e E _ fun H5 H5' v s1 d1 => h2 σ H5 H5' s1.s2 (E.mono s1.s1) _ fun H6 H6' y s2 d2 => ?_
  cases d1
  have st := s1.trans s2
  rw [keyV_of d2]
  exact ⟨D, .ref L, rfl, by rw [← hk]; exact DGet.k (st.s3 _ _ hD), L, vs, rfl, .inl (SqL.of (st.s3 _ _ hL)), q _ _ st⟩
theorem raw_ifc {c : TT} {t u : TS} {Ds : Ends} {H : Hp} (h : c σ H fun b H1 => if b = true then t { Ds with nx := u Ds } σ H1 else u Ds σ H1) : tSeq (tIfS c t tNext) u Ds σ H := h
theorem wr_ne {td ty tb : TE} {D L : Addr} {k : Key} {kvs : List (Key × V)} {vs : List V} {H4 H3 : Hp} {Q : Bool → Hp → Prop} (h1 : EvD S td G (.ptr D)) (h2 : EvD S ty G (keyD k)) (h3 : EvD S tb G (.int vs.length)) (e : Same H4 H3) (E : EnvD S H4 σ G) (hD : H3 D = some (.dK kvs)) (hk : valV kvs k = some (.ref L)) (hL : H3 L = some (.lst vs))
    (q : ∀ H5 H5', Step H4 H3 H5 H5' → Q false H5') : tTest (tOp rNe (tCB (fun xs H Q => ∃ p ys, xs = [V.ref p] ∧ (SqL S.K H p ys ∨ SqT S.K H p ys) ∧ Q (.int ys.length) H) (tCons (tDGet td ty) tNil)) tb) σ H3 Q := by
  show (tCB (fun xs H Q => ∃ p ys, xs = [V.ref p] ∧ (SqL S.K H p ys ∨ SqT S.K H p ys) ∧ Q (.int ys.length) H) (tCons (tDGet td ty) tNil)) σ H3 (fun x H1 => tb σ H1 fun y H2 => rNe x y H2 fun v H4 => ∃ k, v = .bl k ∧ Q k H4)
  refine wr_len h1 h2 e E hD hk hL fun H5 H5' st => h3 σ H5 H5' st.s2 (E.mono st.s1) _ fun H6 H6' v s2 d => ?_
  cases d
  have hf : (!decide (V.int (vs.length : Int) = V.int (vs.length : Int))) = false := by simp
  exact ⟨rfl, _, rfl, by rw [hf]; exact q H6 H6' (st.trans s2)⟩
theorem wr_iflen {td ty tb : TE} {D L : Addr} {k : Key} {kvs : List (Key × V)} {vs : List V} {H4 H3 : Hp} {t u : TS} {Ds : Ends} (h1 : EvD S td G (.ptr D)) (h2 : EvD S ty G (keyD k)) (h3 : EvD S tb G (.int vs.length)) (e : Same H4 H3) (E : EnvD S H4 σ G) (hD : H3 D = some (.dK kvs)) (hk : valV kvs k = some (.ref L)) (hL : H3 L = some (.lst vs))
    (q : ∀ H5 H5', Step H4 H3 H5 H5' → u Ds σ H5') : tSeq (tIfS (tTest (tOp rNe (tCB (fun xs H Q => ∃ p ys, xs = [V.ref p] ∧ (SqL S.K H p ys ∨ SqT S.K H p ys) ∧ Q (.int ys.length) H) (tCons (tDGet td ty) tNil)) tb)) t tNext) u Ds σ H3 :=
  raw_ifc (wr_ne h1 h2 h3 e E hD hk hL fun H5 H5' st => by rw [if_neg (by decide)]; exact q H5 H5' st)
end
theorem valV_zip : ∀ {kls : List (Str × List Dat)} {ls : List Addr} {i : Nat} {kd : Str × List Dat} {a : Addr}, ls.length = kls.length → (kls.map (·.1)).Nodup → kls[i]? = some kd → ls[i]? = some a → valV (zipK kls ls) (.inr kd.1) = some (.ref a)
  | kd :: kls, a :: ls, 0, _, _, hl, hn, h1, h2 => by
    cases h1
    cases h2
    show valV (((Sum.inr kd.1 : Key), V.ref a) :: zipK kls ls) (.inr kd.1) = _
    simp [valV]
  | k0 :: kls, a0 :: ls, i + 1, kd, a, hl, hn, h1, h2 => by
    have ih := valV_zip (i := i) (by simpa using hl) (List.nodup_cons.mp hn).2 h1 h2
    have ne : k0.1 ≠ kd.1 := fun z => (List.nodup_cons.mp hn).1 (List.mem_map.mpr ⟨kd, get_mem h1, z.symm⟩)
    show valV (((Sum.inr k0.1 : Key), V.ref a0) :: zipK kls ls) (.inr kd.1) = _
    rw [← ih]
    simp [valV, ne]
end Ty
set_option Elab.async false
set_option linter.all false
set_option maxRecDepth 100000
set_option maxHeartbeats 1000000
/-! The law changes what it was told: the loop over the lists of pushes. -/
namespace Ty
open PySem PySem.Spec PyProof.Rows L2
section
variable {S : Sys} {g0 g2 g3 g4 g5 g6 g11 g12 g13 g14 g15 : Option Dat} {ps : List Pin} {D1 D2 : Addr} {ls : List Addr} {kls : List (Str × List Dat)} {w : Str} {H2 Hb : Hp}
abbrev gMut (g0 g2 g3 g4 g5 g6 g11 g12 g13 g14 g15 : Option Dat) (ps : List Pin) (D1 D2 : Addr) (w : Str) (x8 x9 x10 : Option Dat) : Gam := [g0, some (pinsT ps), g2, g3, g4, g5, g6, some (.tup [.str w, .ptr D1, .ptr D2]), x8, x9, x10, g11, g12, g13, g14, g15]
/-- the lists hold a number more, up to k -/
structure ListsAt (H4 H3 : Hp) (D1 D2 : Addr) (ls : List Addr) (kls : List (Str × List Dat)) (k : Nat) : Prop where
  ap : ∀ b ∈ D1 :: D2 :: ls, H4 b = none
  d1 : ∃ kv, H3 D1 = some (.dK kv)
  d2 : H3 D2 = some (.dK (zipK kls ls))
  it : ∀ (i : Nat) (a : Addr) (kd : Str × List Dat), ls[i]? = some a → kls[i]? = some kd → ∃ vs, H3 a = some (.lst vs) ∧ vs.length = if i < k then kd.2.length + 1 else kd.2.length
theorem ListsAt.has {H4 H3 : Hp} {k : Nat} (hl : ls.length = kls.length) (h : ListsAt H4 H3 D1 D2 ls kls k) : ∀ b ∈ D1 :: D2 :: ls, ∃ o, H3 b = some o := by
  intro b hb
  rcases List.mem_cons.mp hb with rfl | hb
  · obtain ⟨kv, e⟩ := h.d1
    exact ⟨_, e⟩
  · rcases List.mem_cons.mp hb with rfl | hb
    · exact ⟨_, h.d2⟩
    · obtain ⟨i, hi⟩ := List.mem_iff_getElem?.mp hb
      have := (List.getElem?_eq_some_iff.mp hi).1
      rw [hl] at this
      obtain ⟨vs, e, _⟩ := h.it i b _ hi (List.getElem?_eq_getElem this)
      exact ⟨_, e⟩
theorem ListsAt.step {H4 H3 H5 H5' : Hp} {k : Nat} (hl : ls.length = kls.length) (h : ListsAt H4 H3 D1 D2 ls kls k) (s : Step H4 H3 H5 H5') : ListsAt H5 H5' D1 D2 ls kls k := by
  refine ⟨fun b hb => ?_, ?_, s.s3 _ _ h.d2, fun i a kd e1 e2 => ?_⟩
  · obtain ⟨o, ho⟩ := h.has hl b hb
    exact step_none s (h.ap b hb) ho
  · obtain ⟨kv, e⟩ := h.d1
    exact ⟨kv, s.s3 _ _ e⟩
  · obtain ⟨vs, e, l⟩ := h.it i a kd e1 e2
    exact ⟨vs, s.s3 _ _ e, l⟩
theorem ListsAt.app {H4 H3 : Hp} {k : Nat} {L : Addr} {vs : List V} {v : V} (hn : (D1 :: D2 :: ls).Nodup) (hk : ls[k]? = some L) (h : ListsAt H4 H3 D1 D2 ls kls k) (hL : H3 L = some (.lst vs)) : ListsAt H4 (upd H3 L (.lst (vs ++ [v]))) D1 D2 ls kls (k + 1) := by
  have hm := get_mem hk
  obtain ⟨n1, n2⟩ := List.nodup_cons.mp hn
  obtain ⟨n3, n4⟩ := List.nodup_cons.mp n2
  refine ⟨h.ap, ?_, ?_, fun i a kd e1 e2 => ?_⟩
  · obtain ⟨kv, e⟩ := h.d1
    exact ⟨kv, by rw [upd_ne (fun z => n1 (by rw [z]; exact List.mem_cons_of_mem _ hm))]; exact e⟩
  · rw [upd_ne (fun z => n3 (by rw [z]; exact hm))]
    exact h.d2
  · obtain ⟨us, e, l⟩ := h.it i a kd e1 e2
    by_cases z : i = k
    · subst z
      rw [hk] at e1
      cases e1
      rw [hL] at e
      cases e
      refine ⟨_, upd_same, ?_⟩
      rw [if_neg (Nat.lt_irrefl _)] at l
      rw [List.length_append, l, if_pos (Nat.lt_succ_self _)]
      rfl
    · have ne : a ≠ L := fun q => z ((List.getElem?_inj (List.getElem?_eq_some_iff.mp e1).1 n4).mp (by rw [e1, hk, q]))
      refine ⟨us, by rw [upd_ne ne]; exact e, ?_⟩
      rw [l]
      by_cases y : i < k
      · rw [if_pos y, if_pos (by omega)]
      · rw [if_neg y, if_neg (by omega)]
theorem wr_appends {g : TG} {t : TS} {Ds : Ends} {σ : L2.St} {H : Hp} {x8 x9 x10 : Option Dat} (hl : ls.length = kls.length) (hn : (D1 :: D2 :: ls).Nodup) (hkn : kls.map (·.1) = ps.map Pin.name) (hpn : (ps.map Pin.name).Nodup)
    (hkl : ∀ (i : Nat) (kd : Str × List Dat) (p : Pin), kls[i]? = some kd → ps[i]? = some p → kd.2.length = p.ways.length) (hw : ∀ p ∈ ps, p.ways.length ≤ 2)
    (htg : ∀ (p : Pin) (x8 x9 x10 : Option Dat), TgD S g (pinT p) (gMut g0 g2 g3 g4 g5 g6 g11 g12 g13 g14 g15 ps D1 D2 w x8 x9 x10) (gMut g0 g2 g3 g4 g5 g6 g11 g12 g13 g14 g15 ps D1 D2 w (some (.str p.name)) (some (spotD p)) (some (waysD p.ways))))
    (E : EnvD S H2 σ (gMut g0 g2 g3 g4 g5 g6 g11 g12 g13 g14 g15 ps D1 D2 w x8 x9 x10)) (e : Same H2 H) (eb : Same Hb H) (apb : ∀ b ∈ D1 :: D2 :: ls, Hb b = none) (L0 : ListsAt H2 H D1 D2 ls kls 0)
    (q : ∀ σ' H4 H' x8 x9 x10, Same H2 H4 → Same H4 H' → Same Hb H' → EnvD S H4 σ' (gMut g0 g2 g3 g4 g5 g6 g11 g12 g13 g14 g15 ps D1 D2 w x8 x9 x10) → ListsAt H4 H' D1 D2 ls kls ps.length → Ds.nx σ' H') :
    tFor (iList S.K (tVar 1)) g (tSeq (tIfS (tTest (tOp rNe (tCB (fun xs H Q => ∃ p ys, xs = [V.ref p] ∧ (SqL S.K H p ys ∨ SqT S.K H p ys) ∧ Q (.int ys.length) H) (tCons (tDGet (tOp (rIxT S.K) (tVar 7) (tC (.int 2))) (tVar 8)) tNil)) (tCB (fun xs H Q => ∃ p ys, xs = [V.ref p] ∧ (SqL S.K H p ys ∨ SqT S.K H p ys) ∧ Q (.int ys.length) H) (tCons (tVar 10) tNil)))) t tNext)
      (tDrop (tBM S.K "list" rAppend (tDGet (tOp (rIxT S.K) (tVar 7) (tC (.int 2))) (tVar 8)) (tCons (tTup (tCons (tC (.int 1)) (tCons (tC (.int 1)) tNil))) tNil)))) Ds σ H := by
  obtain ⟨v, hv1, hv2⟩ := E.at_ 1 (pinsT ps) rfl
  cases hv2 with
  | @lst l xs _ ha hA =>
    refine raw_list (S := S) ⟨_, hv1, l, rfl, ⟨xs, SqL.of (e _ _ ha)⟩, for_list (K := S.K) (a := l) (xs := xs) (fun k σ3 H3 => ∃ H4 x8 x9 x10, Same H2 H4 ∧ Same H4 H3 ∧ Same Hb H3 ∧ EnvD S H4 σ3 (gMut g0 g2 g3 g4 g5 g6 g11 g12 g13 g14 g15 ps D1 D2 w x8 x9 x10) ∧ ListsAt H4 H3 D1 D2 ls kls k) ⟨H2, x8, x9, x10, Same.refl _, e, eb, E, L0⟩ (fun i σ3 H3 _ ⟨H4, _, _, _, s1, s2, _⟩ => SqL.of (s2 _ _ (s1 _ _ ha))) ?_ ?_⟩
    · rintro k x σ3 H3 hx ⟨H4, y8, y9, y10, s1, s2, s3, E3, L3⟩
      obtain ⟨d, hd', hv⟩ := hA.getV hx
      obtain ⟨p, hp, rfl⟩ := map_get hd'
      have hkp := (List.getElem?_eq_some_iff.mp hp).1
      have hkk : k < kls.length := by
        have := congrArg List.length hkn
        rw [List.length_map, List.length_map] at this
        omega
      have hkd : kls[k]? = some kls[k] := List.getElem?_eq_getElem hkk
      have hls : ls[k]? = some (ls[k]'(by omega)) := List.getElem?_eq_getElem (by omega)
      generalize kls[k] = kd at hkd
      generalize ls[k]'_ = L at hls
      have hnm : kd.1 = p.name := by
        have h1 : (kls.map (·.1))[k]? = some kd.1 := by rw [List.getElem?_map, hkd]; rfl
        rw [hkn, List.getElem?_map, hp] at h1
        exact (Option.some.inj h1).symm
      have hval : valV (zipK kls ls) (.inr p.name) = some (.ref L) := by
        rw [← hnm]
        exact valV_zip hl (by rw [hkn]; exact hpn) hkd hls
      obtain ⟨vs, hL, hvl⟩ := L3.it k L kd hls hkd
      rw [if_neg (Nat.lt_irrefl _)] at hvl
      have hlen : vs.length = p.ways.length := hvl.trans (hkl k kd p hkd hp)
      have hw2 := hw p (get_mem hp)
      refine htg p y8 y9 y10 x σ3 H4 H3 s2 E3 (hv.mono s1) _ fun σ4 E4 => ?_
      have td : EvD S (tOp (rIxT S.K) (tVar 7) (tC (.int 2))) (gMut g0 g2 g3 g4 g5 g6 g11 g12 g13 g14 g15 ps D1 D2 w (some (.str p.name)) (some (spotD p)) (some (waysD p.ways))) (.ptr D2) := ed_op (ed_var (i := 7) rfl) ed_int (rv_ixT (ds := [.str _, .ptr _, .ptr _]) rfl)
      have ty : EvD S (tVar 8) (gMut g0 g2 g3 g4 g5 g6 g11 g12 g13 g14 g15 ps D1 D2 w (some (.str p.name)) (some (spotD p)) (some (waysD p.ways))) (keyD (.inr p.name)) := ed_var (i := 8) rfl
      refine wr_iflen td ty ((ed_cb (ea_cons (ed_var (i := 10) rfl) ea_nil) (rc_lenL (ds := p.ways.map way))).to (by rw [List.length_map, hlen])) s2 E4 L3.d2 hval hL fun H5 H5' st => ?_
      have L5 := L3.step hl st
      refine wr_append td ty (ed_num (q := (1, 1)) ed_int ed_int) st.s2 (E4.mono st.s1) L5.d2 hval (st.s3 _ _ hL) (by omega) fun H6 H6' u st6 => ?_
      have L6 := L5.step hl st6
      have hm : L ∈ D1 :: D2 :: ls := List.mem_cons_of_mem _ (List.mem_cons_of_mem _ (get_mem hls))
      exact ⟨H6, _, _, _, (s1.trans st.s1).trans st6.s1, same_upd2 st6.s2 (L6.ap L hm), same_upd2 ((s3.trans st.s3).trans st6.s3) (apb L hm), (E4.mono st.s1).mono st6.s1, L6.app hn hls (st6.s3 _ _ (st.s3 _ _ hL))⟩
    · rintro σ3 H3 ⟨H4, y8, y9, y10, s1, s2, s3, E3, L3⟩
      rw [hA.length, List.length_map] at L3
      exact q σ3 H4 H3 y8 y9 y10 s1 s2 s3 E3 L3
end
end Ty
set_option Elab.async false
set_option linter.all false
set_option maxRecDepth 100000
set_option maxHeartbeats 4000000
/-! What the end of law needs: the same word again, the bars' ends, the full frame. -/
namespace Ty
open PySem PySem.Spec PyProof.Rows L2
def tagOf : TR → Str
  | .mot _ => "stiffer"
  | .spa _ _ => "spare"
theorem told_tag (r : TR) : ∃ ds, toldD r = .tup (.str (tagOf r) :: ds) := by
  cases r with
  | mot m => exact ⟨_, rfl⟩
  | spa p k => exact ⟨_, rfl⟩
theorem at_cons0 {α : Type} {d : α} {ds : List α} : atI (d :: ds) 0 = some d := by
  have e : ixN (d :: ds).length 0 = some 0 := by
    unfold ixN
    simp
  unfold atI
  rw [e]
  rfl
theorem tag_tell (F : Frm) (n x y : Str) : tagOf (tellOf F n x y) = if (solOf F (allCols F) (colOf F x y)).1 = true then "stiffer" else "spare" := by
  unfold tellOf
  dsimp only
  split <;> rfl
theorem tag_swap {ps : List Pin} {bs : List LBar} {n m : Str} {i j : Nat} (h : AskOk ps bs n i j) : tagOf (tellOf (frameOf ps bs) m (nameAt ps j) (nameAt ps i)) = tagOf (tellOf (frameOf ps bs) n (nameAt ps i) (nameAt ps j)) := by
  rw [tag_tell, tag_tell, colOf_swap (F := frameOf ps bs) h.l.frm (pinAt_ix (bs := (frameOf ps bs).bars) h.l.pn h.li) (pinAt_ix (bs := (frameOf ps bs).bars) h.l.pn h.lj) fun e => h.ne (name_inj h.l.pn h.li h.lj e)]
/-! two texts, equal -/
def twoPy (a b : Str) : PyData := .tuple [.str a, .str b]
theorem toPy_two (a b : Str) : toPy (.tup [.str a, .str b]) = some (twoPy a b) := by simp [toPy, toPys, twoPy]
theorem eqv_two (a b : Str) : PyData.eqv (twoPy a b) (twoPy a b) = true := by simp [twoPy, PyData.eqv, PyData.eqvAll]
theorem shaped_two {a b : Str} (ha : PyData.strOk a = true) (hb : PyData.strOk b = true) : SeqAt.shaped (twoPy a b) = true := by
  unfold SeqAt.shaped twoPy
  simp [PyData.canLay, PyData.canLay0, PyData.canLayAll0, PyData.depth, PyData.depthAll, ha, hb]
theorem rv_ne2 {S : Sys} {a b : Str} (ha : PyData.strOk a = true) (hb : PyData.strOk b = true) : RvD S (rNeD S.K) (.tup [.str a, .str b]) (.tup [.str a, .str b]) (.bl false) := by
  have := rv_neD (S := S) (toPy_two a b) (toPy_two a b) (shaped_two ha hb) (shaped_two ha hb)
  rwa [eqv_two] at this
/-! what holds lists and tuples alone stays where dicts and objects are taken away -/
mutual
inductive Flat : Dat → Prop
  | int (i : Int) : Flat (.int i)
  | str (x : Str) : Flat (.str x)
  | lst {ds : List Dat} : FlatA ds → Flat (.lst ds)
  | tup {ds : List Dat} : FlatA ds → Flat (.tup ds)
inductive FlatA : List Dat → Prop
  | nil : FlatA []
  | cons {d : Dat} {ds : List Dat} : Flat d → FlatA ds → FlatA (d :: ds)
end
section
variable {S : Sys} {H H' : Hp}
mutual
theorem Flat.keep (k : ∀ b o, H b = some o → (∀ kv, o ≠ .dK kv) → (∀ C dx fs, o ≠ .ins C dx fs) → H' b = some o) : ∀ {d : Dat}, Flat d → ∀ {v : V}, Dt S H v d → Dt S H' v d
  | _, .int i, _, h => by cases h; exact .int _
  | _, .str x, _, h => by cases h; exact .str _
  | _, .lst f, _, h => by
    cases h with
    | lst ha hA => exact .lst (k _ _ ha (fun _ e => by cases e) fun _ _ _ e => by cases e) (FlatA.keep k f hA)
  | _, .tup f, _, h => by
    cases h with
    | tup ha hA =>
      refine .tup ?_ (FlatA.keep k f hA)
      rcases ha with (h | ⟨o, h⟩) | h
      · exact .inl (.inl (k _ _ h (fun _ e => by cases e) fun _ _ _ e => by cases e))
      · exact .inl (.inr ⟨o, k _ _ h (fun _ e => by cases e) fun _ _ _ e => by cases e⟩)
      · exact .inr h
theorem FlatA.keep (k : ∀ b o, H b = some o → (∀ kv, o ≠ .dK kv) → (∀ C dx fs, o ≠ .ins C dx fs) → H' b = some o) : ∀ {d : List Dat}, FlatA d → ∀ {v : List V}, DtA S H v d → DtA S H' v d
  | _, .nil, _, h => by cases h; exact .nil
  | _, .cons f g, _, h => by
    cases h with
    | cons h1 h2 => exact .cons (Flat.keep k f h1) (FlatA.keep k g h2)
end
theorem FlatA.map {α : Type} {f : α → Dat} (h : ∀ a, Flat (f a)) : ∀ l : List α, FlatA (l.map f)
  | [] => .nil
  | a :: l => .cons (h a) (FlatA.map h l)
theorem flat_num (q : Num) : Flat (num q) := .tup (.cons (.int _) (.cons (.int _) .nil))
theorem flat_way (w : Num × Num) : Flat (way w) := .tup (.cons (flat_num _) (.cons (flat_num _) .nil))
theorem flat_pins (ps : List Pin) : Flat (pinsT ps) := .lst (FlatA.map (fun p => .tup (.cons (.str _) (.cons (.tup (.cons (flat_num _) (.cons (flat_num _) .nil))) (.cons (.lst (FlatA.map flat_way _)) .nil)))) ps)
theorem flat_bars (bs : List LBar) : Flat (barsT bs) := .lst (FlatA.map (fun b => .tup (.cons (.str _) (.cons (.int _) (.cons (.int _) .nil)))) bs)
theorem FrP.base {H6 Hx : Hp} {a : Addr} {F : Frm} (p : FrP S H6 H' a F) (e : Same H6 Hx) (e2 : Same Hx H') : ∃ Hs, Same Hs H' ∧ FrP S Hs H' a F ∧ ∀ ds vs, FlatA ds → DtA S Hx vs ds → DtA S Hs vs ds := by
  obtain ⟨dx, s, k, j, sp, kp, jt, h0, h1, h2, h3, d1, d2, d3, n0, n1, n2, n3, e1⟩ := p.ex
  have hs : ∀ b o, Hx b = some o → ¬ (b = a ∨ b = s ∨ b = k ∨ b = j) → (fun b => if b = a ∨ b = s ∨ b = k ∨ b = j then none else Hx b : Hp) b = some o := fun b o hb hn => by
    show (if b = a ∨ b = s ∨ b = k ∨ b = j then none else Hx b) = some o
    rw [if_neg hn]
    exact hb
  have h6 : Same H6 (fun b => if b = a ∨ b = s ∨ b = k ∨ b = j then none else Hx b) := fun b o hb => hs b o (e _ _ hb) (by
    rintro (rfl | rfl | rfl | rfl)
    · rw [n0] at hb; cases hb
    · rw [n1] at hb; cases hb
    · rw [n2] at hb; cases hb
    · rw [n3] at hb; cases hb)
  refine ⟨fun b => if b = a ∨ b = s ∨ b = k ∨ b = j then none else Hx b, fun b o hb => ?_, ⟨dx, s, k, j, sp, kp, jt, h0, h1, h2, h3, d1.mono h6, d2.mono h6, d3.mono h6, if_pos (.inl rfl), if_pos (.inr (.inl rfl)), if_pos (.inr (.inr (.inl rfl))), if_pos (.inr (.inr (.inr rfl))), e1⟩, fun ds vs f h => f.keep (fun b o hb c1 c2 => hs b o hb ?_) h⟩
  · by_cases z : b = a ∨ b = s ∨ b = k ∨ b = j
    · rw [show (fun b => if b = a ∨ b = s ∨ b = k ∨ b = j then none else Hx b : Hp) b = none from if_pos z] at hb
      cases hb
    · rw [show (fun b => if b = a ∨ b = s ∨ b = k ∨ b = j then none else Hx b : Hp) b = Hx b from if_neg z] at hb
      exact e2 _ _ hb
  · have hb' := e2 _ _ hb
    rintro (rfl | rfl | rfl | rfl)
    · rw [h0] at hb'
      injection hb' with hb'
      exact c2 _ _ _ hb'.symm
    · rw [h1] at hb'
      injection hb' with hb'
      exact c1 _ hb'.symm
    · rw [h2] at hb'
      injection hb' with hb'
      exact c1 _ hb'.symm
    · rw [h3] at hb'
      injection hb' with hb'
      exact c1 _ hb'.symm
end
section
variable {S : Sys} {G : Gam} {te : TE} {a : Addr} {F : Frm} {c : TT} {t u : TS} {Ds : Ends} {σ : L2.St} {H1 H : Hp} {d : Dat} {b : Bool}
theorem ed_revL {ds : List Dat} (h : EvD S te G (.lst ds)) : EvD S (tRevL S.K te) G (.lst ds.reverse) := fun σ H1 H e E Q q => by
  refine h σ H1 H e E _ fun H2 H' v s dv => ?_
  cases dv with
  | @lst l xs _ ha hA =>
    refine ⟨l, xs, rfl, SqL.of (s.s2 _ _ ha), fun p hp => q _ _ _ (s.trans (Step.new s.s2 hp)) (.lst upd_same (DtA.mono (same_new (s.s2.free hp)) ?_))⟩
    have key : ∀ {xs : List V} {ds : List Dat}, DtA S H2 xs ds → DtA S H2 xs.reverse ds.reverse := by
      intro xs ds hA
      induction xs generalizing ds with
      | nil => cases hA; exact .nil
      | cons x xs ih =>
        cases hA with
        | cons h1 h2 =>
          rw [List.reverse_cons, List.reverse_cons]
          exact (ih h2).snoc h1
    exact key hA
theorem raw_gset {i : Nat} (hi : G[3]? = some (some (.ptr a))) (h : EvD S te (G.set 3 (some (.frm F))) d) (e : Same H1 H) (E : EnvD S H1 σ G) (fd : Dt S H1 (.ref a) (.frm F)) (q : ∀ H2 H' σ', Step H1 H H2 H' → EnvD S H2 σ' (G.set i (some d)) → u Ds σ' H') : tSeq (tAsg te (gName i)) u Ds σ H :=
  h σ H1 H e (told_frame hi E fd) _ fun H2 H' v s dv => q H2 H' _ s ((E.mono s.s1).set dv)
theorem raw_gifn (hi : G[3]? = some (some (.ptr a))) (h : EvT S c (G.set 3 (some (.frm F))) false) (e : Same H1 H) (E : EnvD S H1 σ G) (fd : Dt S H1 (.ref a) (.frm F)) (q : ∀ H2 H', Step H1 H H2 H' → u Ds σ H') : tSeq (tIfS c t tNext) u Ds σ H :=
  h σ H1 H e (told_frame hi E fd) _ fun H2 H' s => iteF (q H2 H' s)
theorem raw_ifb (h : EvT S c G b) (e : Same H1 H) (E : EnvD S H1 σ G) (q1 : b = true → ∀ H2 H', Step H1 H H2 H' → t { Ds with nx := u Ds } σ H') (q2 : b = false → ∀ H2 H', Step H1 H H2 H' → u Ds σ H') : tSeq (tIfS c t tNext) u Ds σ H :=
  h σ H1 H e E _ fun H2 H' s => by
    cases b with
    | true => exact iteT (q1 rfl H2 H' s)
    | false => exact iteF (q2 rfl H2 H' s)
theorem raw_g {P : Gam → Prop} (h : RunG S a F t G P) (e : Same H1 H) (E : EnvD S H1 σ G) (fd : Dt S H1 (.ref a) (.frm F)) (q : ∀ G' σ' H2 H', P G' → Step H1 H H2 H' → EnvD S H2 σ' G' → u Ds σ' H') : tSeq t u Ds σ H :=
  h σ H1 H { Ds with nx := u Ds } e E fd fun G' σ' H2 H' p s E' => q G' σ' H2 H' p s E'
theorem raw_retE (h : te σ H fun v H' => Ds.rt v H') : tRet te Ds σ H := h
end
section
variable {K : PySem.W.Frag} {ps : List Pin} {bs : List LBar} {a : Addr} {g0 g4 g5 g6 g7 g9 g10 g11 g12 g15 : Option Dat}
abbrev gEnd (g0 g4 g5 g6 g7 g9 g10 g11 g12 g15 : Option Dat) (ps : List Pin) (bs : List LBar) (a : Addr) (x8 x13 x14 : Option Dat) : Gam := [g0, some (pinsT ps), some (barsT bs), some (.ptr a), g4, g5, g6, g7, x8, g9, g10, g11, g12, x13, x14, g15]
theorem rg_ends {E0 : XK} {t : TS} {x8 x13 x14 : Option Dat} (l : LOk ps bs) (sp : ∀ p ∈ ps, PyData.strOk p.name = true) :
    RunG (sysOf K) a (frameOf ps bs) (tFor (iList K (tVar 2)) (gTup K 3 (gCons (gName 8) (gCons (gName 14) (gCons (gName 13) gNil)))) (tIfS (tTest (tOp (rNeD K) (tMeth (sysOf K).CF "ends" (spF (sysOf K) R_Frame_ends) [] E0 (tVar 3) (tCons (tVar 8) tNil)) (tTup (tCons (tOp (rIxT K) (tOp (rIxL K) (tVar 1) (tVar 14)) (tC (.int 0))) (tCons (tOp (rIxT K) (tOp (rIxL K) (tVar 1) (tVar 13)) (tC (.int 0))) tNil))))) t tNext))
      (gEnd g0 g4 g5 g6 g7 g9 g10 g11 g12 g15 ps bs a x8 x13 x14) (fun G => ∃ x8 x13 x14, G = gEnd g0 g4 g5 g6 g7 g9 g10 g11 g12 g15 ps bs a x8 x13 x14) := by
  refine rg_for_list (S := sysOf K) (ds := bs.map barT) rfl (ed_var (i := 2) rfl) (fun _ G => ∃ x8 x13 x14, G = gEnd g0 g4 g5 g6 g7 g9 g10 g11 g12 g15 ps bs a x8 x13 x14) ⟨_, _, _, rfl⟩ ?_ fun G h => h
  rintro k d G hd ⟨y8, y13, y14, rfl⟩
  obtain ⟨b, hb, rfl⟩ := map_get hd
  have hm := get_mem hb
  obtain ⟨b1, b2, b3⟩ := l.bi b hm
  refine ⟨gEnd g0 g4 g5 g6 g7 g9 g10 g11 g12 g15 ps bs a (some (.str b.1)) (some (.int b.2.2)) (some (.int b.2.1)), tg_tup (ds := [.str b.1, .int b.2.1, .int b.2.2]) (tgs_cons tg_name (tgs_cons tg_name (tgs_cons tg_name tgs_nil))), ?_⟩
  have hbar : (frameOf ps bs).barAt b.1 = some (barF ps b) := barAt_of (F := frameOf ps bs) (b := barF ps b) (by
    show ((bs.map (barF ps)).map (·.1)).Nodup
    rw [List.map_map]
    exact l.bn) (List.mem_map.mpr ⟨b, hm, rfl⟩)
  have nm : ∀ {i : Nat}, i < ps.length → PyData.strOk (nameAt ps i) = true := fun {i} hi => sp _ (getD_mem hi)
  have pn : ∀ {G : Gam} {s i : Nat}, G[1]? = some (some (pinsT ps)) → G[s]? = some (some (.int (i : Nat))) → i < ps.length → EvD (sysOf K) (tOp (rIxT K) (tOp (rIxL K) (tVar 1) (tVar s)) (tC (.int 0))) G (.str (nameAt ps i)) := fun {G s i} h0 hs hi =>
    ed_op (ed_op (ed_var h0) (ed_var hs) (rv_ixL (z := pinT (ps.getD i nilPin)) (pin_at hi rfl))) ed_int (rv_ixT (ds := [.str _, spotD _, waysD _]) rfl)
  refine rg_ifn rfl (et_test (ed_op (ed_meth (ed_var (i := 3) rfl) (ea_cons (ed_var (i := 8) rfl) ea_nil) ⟨frameOf ps bs, b.1, barF ps b, rfl, hbar, rfl⟩) (ed_tup (ea_cons (pn rfl rfl b1) (ea_cons (pn rfl rfl b2) ea_nil))) (rv_ne2 (nm b1) (nm b2)))) ⟨_, _, _, rfl⟩
end
end Ty
set_option Elab.async false
set_option linter.all false
set_option maxRecDepth 100000
set_option maxHeartbeats 4000000
/-! law. -/
namespace Ty
open PySem PySem.Spec PyProof.Rows L2
theorem raw_setg {te : TE} {g : TG} {u : TS} {Ds : Ends} {σ : L2.St} {H : Hp} (h : te σ H fun v H' => g v σ H' fun σ' H'' => u Ds σ' H'') : tSeq (tAsg te g) u Ds σ H := h
theorem raw_post2 {t1 t2 u : TS} {Ds : Ends} {σ : L2.St} {H : Hp} (R : L2.St → Hp → Prop) (h1 : ∀ Ds' : Ends, (∀ σ' H', R σ' H' → Ds'.nx σ' H') → tSeq t1 t2 Ds' σ H) (h2 : ∀ σ' H', R σ' H' → u Ds σ' H') : tSeq t1 (tSeq t2 u) Ds σ H := h1 { Ds with nx := u Ds } h2
theorem spare_lists {ps : List Pin} {bs : List LBar} {n : Str} {i j : Nat} {pp : List (Key × Dat)} {kk : List (Str × List Dat)} (hn : (ps.map Pin.name).Nodup) (h : SpareOk ps bs n i j (toldD (.spa pp kk)) ∨ StiffOk ps bs n i j (toldD (.spa pp kk))) : kk.map (·.1) = ps.map Pin.name ∧ ∀ (k : Nat) (kd : Str × List Dat) (p : Pin), kk[k]? = some kd → ps[k]? = some p → kd.2.length = p.ways.length := by
  rcases h with ⟨pk, qk, pu, qu, M, e, pok, fok, _⟩ | ⟨mk, mo, M, e, _⟩
  · have e2 : qk = kk.map fun kd => ((Sum.inr kd.1 : Key), Dat.lst kd.2) := by
      unfold toldD at e
      injection e with e
      injection e with _ e
      injection e with _ e
      injection e with e _
      injection e with e
      exact e.symm
    subst e2
    have ek : kk.map (·.1) = ps.map Pin.name := by
      have := pok.qks
      rw [List.map_map] at this
      have h2 : (kk.map (·.1)).map (fun x => (Sum.inr x : Key)) = (ps.map Pin.name).map (fun x => (Sum.inr x : Key)) := by
        rw [List.map_map, List.map_map]
        exact this
      exact (List.map_inj_right (fun a b h => by injection h)).mp h2
    refine ⟨ek, fun k kd p h1 h2 => ?_⟩
    have hk := (List.getElem?_eq_some_iff.mp h2).1
    have hnm : nameAt ps k = p.name := by unfold nameAt; rw [getD_of h2]
    have hkd : kd.1 = p.name := by
      have h3 : (kk.map (·.1))[k]? = some kd.1 := by rw [List.getElem?_map, h1]; rfl
      rw [ek, List.getElem?_map, h2] at h3
      exact (Option.some.inj h3).symm
    have nd : ((kk.map fun kd => ((Sum.inr kd.1 : Key), Dat.lst kd.2)).map (·.1)).Nodup := by
      rw [pok.qks]
      have : ps.map (fun p => (Sum.inr p.name : Key)) = (ps.map Pin.name).map (fun x => (Sum.inr x : Key)) := by rw [List.map_map]; rfl
      rw [this]
      exact List.Pairwise.map _ (fun a b hab e => hab (by injection e)) hn
    have v1 := valD_at nd (i := k) (k := .inr kd.1) (d := .lst kd.2) (by rw [List.getElem?_map, h1]; rfl)
    have v2 := pok.qv k hk
    rw [hnm, ← hkd, v1] at v2
    have v3 : kd.2 = (qu k).map num := by
      injection v2 with v2
      unfold colD at v2
      injection v2
    obtain ⟨q1, _⟩ := fok.ql k hk
    rw [v3, List.length_map, q1, getD_of h2]
  · unfold toldD at e
    injection e with e
    injection e with e
    cases e
section
variable {Pr : Program} {w : World} {K : PySem.W.Frag} {mg : Str → Option Value} {base : Heap}
def Sp_law (S : Sys) : Sp := fun vs H Q _ => ∃ H1 ns, Same H1 H ∧ DtA S H1 vs [.scr ns] ∧ ∀ H', Q (.bl true) H'
theorem ok_law (T : Txt K mg) (B : Bas Pr base) (X : Exq K) : FnOk Pr w K mg base CX0 50 (He.ga K "law") (fdAt K (He.ga K "law")) ["_law_script"] (Sp_law (sysOf K)) := by
  refine FunD.ok T.F_law sc_law (fun vs H Q E h => ?_) (fun cdv A outer s H vs Q E hr h => ?_)
  · obtain ⟨H1, ns, e, dv, _⟩ := h
    exact dv.length
  · obtain ⟨H1, ns, e, dv, q⟩ := h
    refine ⟨_, PSs.nox (pss_cons (ps_set (i := 1) (sc_law).nd rfl (Or.inl rfl) (pe_call (ok_law_pins T B) (hr.mono (by decide)) rfl T.g_law_pins T.F_law_pins.kp T.b_law_pins .nil pass0 (pa_cons (pv 0) pa_nil))) (pss_cons (ps_if (pt_cmpR op_lt (pe_callB call_len_seq (by rfl) T.n_len (by decide +kernel) (pa_cons (pv 1) pa_nil)) pe_int (nomark _)) (pss_one (ps_ret pe_bl)) pss_nil) (pss_cons (ps_set (i := 2) (sc_law).nd rfl (Or.inl rfl) (pe_call (ok_law_bars T B) (hr.mono (by decide)) rfl T.g_law_bars T.F_law_bars.kp T.b_law_bars .nil pass0 (pa_cons (pv 0) (pa_cons (pv 1) pa_nil)))) (pss_cons (ps_set (i := 3) (sc_law).nd rfl (Or.inl rfl) (pe_call (ok_law_frame T B X) (hr.mono (by decide)) rfl T.g_law_frame T.F_law_frame.kp T.b_law_frame .nil pass0 (pa_cons (pv 1) (pa_cons (pv 2) pa_nil)))) (pss_cons (ps_asg (pe_call (ok_law_new T B) (hr.mono (by decide)) rfl T.g_law_new T.F_law_new.kp T.b_law_new .nil pass0 (pa_cons (pv 0) (pa_cons (pv 1) (pa_cons (pv 2) pa_nil)))) (pg_tup rfl (pgs_cons (pg_name (i := 4) (sc_law).nd rfl (Or.inl rfl)) (pgs_cons (pg_name (i := 5) (sc_law).nd rfl (Or.inl rfl)) (pgs_cons (pg_name (i := 6) (sc_law).nd rfl (Or.inl rfl)) pgs_nil))))) (pss_cons (ps_set (i := 7) (sc_law).nd rfl (Or.inl rfl) (pe_call (ok_law_asked T B X) (hr.mono (by decide)) rfl T.g_law_asked T.F_law_asked.kp T.b_law_asked .nil pass0 (pa_cons (pv 3) (pa_cons (pv 4) pa_nil)))) (pss_cons (ps_if (pt_cmpR (op_neD hr.units) (pe_meth0 (pv 3) T.cl_Frame T.m_Frame_bars (ok_Frame_bars T B) (hr.mono (by decide)) T.b_Frame_bars .nil pass0) (pe_lc (own := [("_law_bar", 15)]) (g := gName 15) (tt := tYes) rfl (sc_law).nd (pi_list (pv 2)) (blkOk_by (N := ["_law_script", "_law_pins_here", "_law_bars_here", "_law_frame_here", "_law_new_here", "_law_due", "_law_ends", "_law_told", "_law_name_here", "_law_spot_here", "_law_ways_here", "_law_part", "_law_again", "_law_other", "_law_one", "_law_bar"]) (sc := defScope s_law) (by decide +kernel)) (fun _ _ _ _ _ => pg_name (i := 15) (sc_law).nd rfl (Or.inl rfl)) (fun _ _ _ _ _ => pts_nil) (fun _ _ _ _ _ => (pe_ix (ix_tupK K) (pv 15) pe_int (fun _ _ => rfl)))) (nomark _)) (pss_one (ps_ret pe_bl)) pss_nil) (pss_cons (ps_if (pt_cmpR op_notN (pv 5) pe_non (nomark _)) (pss_one (ps_ret (pe_and (pe_cmpR (op_eqD hr.units) (pv 7) (pv 5) (nomark _)) (pe_one (pe_cmpR (op_eqD hr.units) (pe_call (ok_law_asked T B X) (hr.mono (by decide)) rfl T.g_law_asked T.F_law_asked.kp T.b_law_asked .nil pass0 (pa_cons (pv 3) (pa_cons (pv 4) pa_nil))) (pv 5) (nomark _)))))) pss_nil) (pss_cons (ps_if (pt_not (pt_val (pe_call (ok_law_right T B) (hr.mono (by decide)) rfl T.g_law_right T.F_law_right.kp T.b_law_right .nil pass0 (pa_cons (pv 1) (pa_cons (pv 2) (pa_cons (pv 4) (pa_cons (pv 6) (pa_cons (pv 7) pa_nil)))))))) (pss_one (ps_ret pe_bl)) pss_nil) (pss_cons (ps_if (pt_cmpR op_eq (pe_ix ix_tup (pv 7) pe_int (fun _ _ => rfl)) pe_str (nomark _)) (pss_one (ps_for PassesOwn.never rfl (pi_list (pv 1)) (pg_tup rfl (pgs_cons (pg_name (i := 8) (sc_law).nd rfl (Or.inl rfl)) (pgs_cons (pg_name (i := 9) (sc_law).nd rfl (Or.inl rfl)) (pgs_cons (pg_name (i := 10) (sc_law).nd rfl (Or.inl rfl)) pgs_nil)))) (pss_cons (ps_if (pt_cmpR op_ne (pe_callB call_len_seq (by rfl) T.n_len (by decide +kernel) (pa_cons (pe_dget (hu_of hr) (pe_ix ix_tup (pv 7) pe_int (fun _ _ => rfl)) (pv 8) (fun _ _ => rfl)) pa_nil)) (pe_callB call_len_seq (by rfl) T.n_len (by decide +kernel) (pa_cons (pv 10) pa_nil)) (nomark _)) (pss_one (ps_ret pe_bl)) pss_nil) (pss_one (ps_expr (pe_bm PySem.F.plainAttrs_list PySem.F.slot_list_append PySem.F.type_list_append mt_append (pe_dget (hu_of hr) (pe_ix ix_tup (pv 7) pe_int (fun _ _ => rfl)) (pv 8) (fun _ _ => rfl)) (pa_cons (pe_tup (pa_cons pe_int (pa_cons pe_int pa_nil))) pa_nil))))))) pss_nil) (pss_cons (ps_for PassesOwn.never rfl (pi_tup (pe_slice sl_tup (pv 7) (po_some pe_int) po_none)) (pg_name (i := 11) (sc_law).nd rfl (Or.inl rfl)) (pss_one (ps_expr (pe_dclear (pv 11))))) (pss_cons (ps_set (i := 12) (sc_law).nd rfl (Or.inl rfl) (pe_call (ok_law_asked T B X) (hr.mono (by decide)) rfl T.g_law_asked T.F_law_asked.kp T.b_law_asked .nil pass0 (pa_cons (pv 3) (pa_cons (pv 4) pa_nil)))) (pss_cons (ps_if (PW.pt (pw_or (pt_not (pt_val (pe_call (ok_law_right T B) (hr.mono (by decide)) rfl T.g_law_right T.F_law_right.kp T.b_law_right .nil pass0 (pa_cons (pv 1) (pa_cons (pv 2) (pa_cons (pv 4) (pa_cons (pv 6) (pa_cons (pv 12) pa_nil)))))))) (pw_or1 (pt_cmpR op_ne (pe_ix ix_tup (pv 12) pe_int (fun _ _ => rfl)) (pe_ix ix_tup (pv 7) pe_int (fun _ _ => rfl)) (nomark _))))) (pss_one (ps_ret pe_bl)) pss_nil) (pss_cons (ps_set (i := 13) (sc_law).nd rfl (Or.inl rfl) (pe_lst (pa_cons pe_str (pa_cons (pe_ix ix_list (pv 4) pe_int (fun _ _ => rfl)) (pa_cons (pe_ix ix_list (pv 4) pe_int (fun _ _ => rfl)) pa_nil))))) (pss_cons (ps_set (i := 12) (sc_law).nd rfl (Or.inl rfl) (pe_call (ok_law_asked T B X) (hr.mono (by decide)) rfl T.g_law_asked T.F_law_asked.kp T.b_law_asked .nil pass0 (pa_cons (pv 3) (pa_cons (pv 13) pa_nil)))) (pss_cons (ps_if (PW.pt (pw_or (pt_not (pt_val (pe_call (ok_law_right T B) (hr.mono (by decide)) rfl T.g_law_right T.F_law_right.kp T.b_law_right .nil pass0 (pa_cons (pv 1) (pa_cons (pv 2) (pa_cons (pv 13) (pa_cons (pe_revL (pv 6)) (pa_cons (pv 12) pa_nil)))))))) (pw_or1 (pt_cmpR op_ne (pe_ix ix_tup (pv 12) pe_int (fun _ _ => rfl)) (pe_ix ix_tup (pv 7) pe_int (fun _ _ => rfl)) (nomark _))))) (pss_one (ps_ret pe_bl)) pss_nil) (pss_cons (ps_for PassesOwn.never rfl (pi_list (pv 2)) (pg_tup rfl (pgs_cons (pg_name (i := 8) (sc_law).nd rfl (Or.inl rfl)) (pgs_cons (pg_name (i := 14) (sc_law).nd rfl (Or.inl rfl)) (pgs_cons (pg_name (i := 13) (sc_law).nd rfl (Or.inl rfl)) pgs_nil)))) (pss_one (ps_if (pt_cmpR (op_neD hr.units) (pe_meth (pv 3) T.cl_Frame T.m_Frame_ends (ok_Frame_ends T B) (hr.mono (by decide)) T.b_Frame_ends .nil pass0 (pa_cons (pv 8) pa_nil)) (pe_tup (pa_cons (pe_ix ix_tup (pe_ix ix_list (pv 1) (pv 14) (fun _ _ => rfl)) pe_int (fun _ _ => rfl)) (pa_cons (pe_ix ix_tup (pe_ix ix_list (pv 1) (pv 13) (fun _ _ => rfl)) pe_int (fun _ _ => rfl)) pa_nil))) (nomark _)) (pss_one (ps_ret pe_bl)) pss_nil))) (pss_cons (ps_if (pt_cmpR op_eq (pe_call (ok_law_field T B) (hr.mono (by decide)) rfl T.g_law_field T.F_law_field.kp T.b_law_field .nil pass0 (pa_cons (pe_call (ok_law_cell_at T B) (hr.mono (by decide)) rfl T.g_law_cell_at T.F_law_cell_at.kp T.b_law_cell_at .nil pass0 (pa_cons (pv 0) (pa_cons pe_int pa_nil))) (pa_cons pe_int (pa_cons pe_int pa_nil)))) pe_int (nomark _)) (pss_one (ps_ret (pe_call (ok_law_full T B X) (hr.mono (by decide)) rfl T.g_law_full T.F_law_full.kp T.b_law_full .nil pass0 (pa_cons (pv 3) (pa_cons (pv 1) (pa_cons (pv 2) (pa_cons (pv 4) (pa_cons (pv 6) pa_nil)))))))) pss_nil) (pss_one (ps_ret pe_bl)))))))))))))))))))), ?_⟩
    have E1 := env_start (N := ["_law_script", "_law_pins_here", "_law_bars_here", "_law_frame_here", "_law_new_here", "_law_due", "_law_ends", "_law_told", "_law_name_here", "_law_spot_here", "_law_ways_here", "_law_part", "_law_again", "_law_other", "_law_one", "_law_bar"]) dv
    have sR : Stable (fun (_ _ : Hp) (v : V) (_ : Hp) => v = V.bl true) := fun _ _ _ _ _ _ _ p => p
    refine RunZ.use (S := sysOf K) (R := fun _ _ v _ => v = .bl true) ?_ e E1 fun v H' hv => by rw [hv]; exact q H'
    refine rz_callZn ns (ea_cons (ed_var (i := 0) rfl) ea_nil) rfl ?_
    intro σ Hs H0 Ha Hb v H' st Ea post Ds q1
    obtain ⟨H2, ps, c1, s2, dps, pok, pl5⟩ := post
    have E2 := (Ea.mono s2.s1).set (i := 1) dps
    refine RunZ.use (S := sysOf K) (R := fun _ _ v _ => v = .bl true) ?_ s2.s2 E2 fun v H' hv => q1 v H' hv
    refine rz_if sR (b := decide ((ps.length : Int) < 2)) (et_test (ed_op (ed_lenP (ed_var rfl)) ed_int rv_lt)) (fun _ => rz_ret ed_bl fun H1 H H2 H' v s dv => by cases dv; rfl) fun h2 => ?_
    have hp2 : 2 ≤ ps.length := by have := of_decide_eq_false h2; omega
    refine rz_callZn (ns, ps) (ea_cons (ed_var (i := 0) rfl) (ea_cons (ed_var (i := 1) rfl) ea_nil)) ⟨rfl, hp2⟩ ?_
    clear st Ea s2 E2 q1 E1
    intro σ Hs H0 Ha Hb v H' st Ea post Ds q1
    obtain ⟨H2, bs, c2, s2, dbs, bok, bl7⟩ := post
    dsimp only at bok
    have E2 := (Ea.mono s2.s1).set (i := 2) dbs
    have lok := lok_of pok pl5 bok bl7
    have nok := nm_of pok pl5 bok bl7
    -- the frame
    refine raw_set (te_call ((ea_cons (ed_var (i := 1) rfl) (ea_cons (ed_var (i := 2) rfl) ea_nil)) _ H2 H' s2.s2 E2 _ fun H3 H3' vs s3 dvs => ⟨H3, ps, bs, s3.s2, (by rw [List.append_nil]; exact dvs), lok, fun H4 H4' a s4 s5 fp => ?_⟩))
    have E4 : EnvD (sysOf K) H4 _ _ := (E2.mono (s3.s1.trans s4)).set (i := 3) (Dt.ptr a)
    refine raw_setg (te_call ((ea_cons (ed_var (i := 0) rfl) (ea_cons (ed_var (i := 1) rfl) (ea_cons (ed_var (i := 2) rfl) ea_nil))) _ H4 H4' s5 E4 _ fun H5 H5' vs s6 dvs => ⟨H5, _, (ns, ps, bs), s6.s2, (by rw [List.append_nil]; exact dvs), ⟨rfl, hp2, lok, nok⟩, fun v H6' post => ?_⟩))
    obtain ⟨H6, n, x, y, due, i, j, s7, dv, nw⟩ := post
    dsimp only at nw
    refine (tg_tup (tgs_cons tg_name (tgs_cons tg_name (tgs_cons tg_name tgs_nil)))) v _ H6 H6' s7.s2 ((E4.mono s6.s1).mono s7.s1) dv _ fun σ7 E7 => ?_
    have fp7 := (fp.step s6).step s7
    have e7 := s7.s2
    replace E7 : EnvD (sysOf K) H6 σ7 [some (.scr ns), some (pinsT ps), some (barsT bs), some (.ptr a), some (.lst [.str n, .str x, .str y]), some due, some (.lst [.int (i : Nat), .int (j : Nat)]), none, none, none, none, none, none, none, none, none] := E7
    clear dv s7 E4 s6 s5 s4 fp dbs dps s2 Ea st E2 dvs s3 e
    obtain ⟨Hf, f1, f2, fd⟩ := fp7.dt e7
    have Ef := E7.mono f1
    have hb7 : (frameOf ps bs).bars.length ≤ 20 := by show (bs.map _).length ≤ 20; rw [List.length_map]; omega
    obtain ⟨li, lj, ne, hd⟩ := nw
    have sb : ∀ x ∈ bs.map (fun b : LBar => b.1), PyData.strOk x = true := fun x hx => by
      obtain ⟨b, hb, rfl⟩ := List.mem_map.mp hx
      exact nok.s b hb
    have enames : ∀ {G : Gam}, G[2]? = some (some (barsT bs)) → G[15]? = some none → EvD (sysOf K) (tLc (iList K (tVar 2)) (gName 15) tYes (tOp (rIxT K) (tVar 15) (tC (.int 0))) [15]) G (.lst ((bs.map fun b : LBar => b.1).map .str)) := fun {G} h2 h15 => by
      have hlen15 : 15 < G.length := (List.getElem?_eq_some_iff.mp h15).1
      refine ed_lc_list (ds := bs.map barT) (rs := (bs.map fun b : LBar => b.1).map .str) (ed_var h2) (by simp) (by rw [List.length_map]; omega) fun k d r hd hr => ?_
      obtain ⟨p, hp, rfl⟩ := map_get hd
      obtain ⟨q, hq, rfl⟩ := map_get hr
      obtain ⟨p', hp', rfl⟩ := map_get hq
      rw [hp] at hp'
      cases hp'
      exact ed_op (ed_var (List.getElem?_set_self (by rw [List.length_set]; exact hlen15))) ed_int (rv_ixT (ds := [.str _, .int _, .int _]) rfl)
    have ebn : ∀ {G : Gam}, G[3]? = some (some (.frm (frameOf ps bs))) → EvD (sysOf K) (tMeth (sysOf K).CF "bars" (spF (sysOf K) R_Frame_bars) [] E0 (tVar 3) tNil) G (.lst ((bs.map fun b : LBar => b.1).map .str)) := fun h => (ed_meth (ed_var h) ea_nil ⟨_, rfl, rfl⟩).to (by
      show Dat.lst ((bs.map (barF ps)).map fun b => .str b.1) = _
      rw [List.map_map, List.map_map]
      rfl)
    have ebars : ∀ {G : Gam}, G[3]? = some (some (.frm (frameOf ps bs))) → EvD (sysOf K) (tVar 3) G (.frm (frameOf ps bs)) := fun h => ed_var h
    rcases hd with ⟨rfl, rfl, rfl, rfl⟩ | ⟨er, rfl, herr, hask⟩
    · have A := askok_of pok pl5 bok bl7 li lj ne (.inl rfl : ("new" : Str) = "new" ∨ _)
      refine raw_set (te_call ((ea_cons (ed_var (i := 3) rfl) (ea_cons (ed_var (i := 4) rfl) ea_nil)) _ Hf H6' f2 (told_frame (S := sysOf K) rfl Ef fd) _ fun H8 H8' vs s8 dvs => ⟨H8, frameOf ps bs, "new", nameAt ps i, nameAt ps j, s8.s2, (by rw [List.append_nil]; exact dvs), lok.frm, pl5, (fun _ => ⟨hb7, fun v H9' told => ?_⟩), fun er he => by rw [A.none] at he; cases he⟩))
      have right := tell_right A
      obtain ⟨r, hr'⟩ : ∃ r, r = tellOf (frameOf ps bs) "new" (nameAt ps i) (nameAt ps j) := ⟨_, rfl⟩
      rw [← hr'] at told right
      obtain ⟨H3, s9, dr⟩ := told_parts told
      have E9 := (((Ef.mono s8.s1).mono s9.s1).set (i := 7) dr)
      have fd9 := (fd.mono s8.s1).mono s9.s1
      refine raw_ifn (et_test (ed_op (ebn rfl) (enames rfl rfl) (rv_neNames sb))) s9.s2 (told_frame (S := sysOf K) rfl E9 fd9) fun Ha Ha' sa => ?_
      refine raw_ifn (et_test (ed_op (ed_var (i := 5) rfl) ed_non (rv_notN (b := false) fun H v h => by cases h; rfl))) sa.s2 ((told_frame (S := sysOf K) rfl E9 fd9).mono sa.s1) fun Hc Hc' sc => ?_
      refine raw_ifn (et_not (a := true) (et_B (ed_call (ea_cons (ed_var (i := 1) rfl) (ea_cons (ed_var (i := 2) rfl) (ea_cons (ed_var (i := 4) rfl) (ea_cons (ed_var (i := 6) rfl) (ea_cons (ed_var (i := 7) rfl) ea_nil))))) ⟨ps, bs, "new", nameAt ps i, nameAt ps j, i, j, toldD r, rfl, lok.gd, pl5, bl7, (fun b hb => ⟨(lok.bi b hb).1, (lok.bi b hb).2.1⟩), li, lj, right, rfl⟩))) sc.s2 (((told_frame (S := sysOf K) rfl E9 fd9).mono sa.s1).mono sc.s1) fun Hd Hd' sd => ?_
      have ch : Same H9' Hd' := (sa.s3.trans sc.s3).trans sd.s3
      refine raw_post2 (fun σ' H' => ∃ Hx x8 x9 x10 x11 ptrs, Same Hf Hx ∧ Same Hx H' ∧ Same H6' H' ∧ EnvD (sysOf K) Hx σ' [some (.scr ns), some (pinsT ps), some (barsT bs), some (.ptr a), some (.lst [.str "new", .str (nameAt ps i), .str (nameAt ps j)]), some .non, some (.lst [.int (i : Nat), .int (j : Nat)]), some (.tup (.str (tagOf r) :: ptrs)), x8, x9, x10, x11, none, none, none, none]) (fun Ds' q' => ?_) ?_
      · cases r with
        | mot m =>
          obtain ⟨H2, D, o, st, n0, n2, ho, ow, dv⟩ := told
          have E10 := ((Ef.mono s8.s1).mono st.s1).set (i := 7) dv
          have hD := ch _ _ ho
          refine raw_ifn (et_test (ed_op (ed_op (ed_var (i := 7) rfl) ed_int (rv_ixT rfl)) ed_str rv_eqS)) (st.s2.trans ch) E10 fun He He' se => ?_
          refine wr_clears (S := sysOf K) (Dl := [D]) (w := "stiffer") (Hb := H6') rfl (E10.mono se.s1) se.s2 (((s8.s3.trans st.s3).trans ch).trans se.s3) (Nat.le_of_ble_eq_true rfl) (fun D' hm => ?_) (fun D' hm => ?_) (Nat.le_of_ble_eq_true rfl) (Nat.le_of_ble_eq_true rfl) fun σ' H' x g1 g2 Ex => q' σ' H' ⟨He, _, _, _, x, _, ((s8.s1.trans st.s1).trans se.s1), g1, g2, Ex⟩
          · rw [List.mem_singleton.mp hm]
            exact ⟨step_none se n2 hD, s8.s3.free n0⟩
          · rw [List.mem_singleton.mp hm]
            cases ow
            exact ⟨_, se.s3 _ _ hD⟩
        | spa pp kk =>
          obtain ⟨H2, D1, o, D2, ls, st, n0, n2, ho, ow, pu, nm, dv⟩ := told
          have E10 := ((Ef.mono s8.s1).mono st.s1).set (i := 7) dv
          obtain ⟨ekn, ekl⟩ := spare_lists lok.pn right
          cases ow with
          | K hkp =>
          have hD1 := ch _ _ ho
          have hD2 := ch _ _ pu.dk
          have n8 : ∀ b ∈ D1 :: D2 :: ls, H6' b = none ∧ H2 b = none := fun b hb => by
            rcases List.mem_cons.mp hb with rfl | hb
            · exact ⟨s8.s3.free n0, n2⟩
            · exact ⟨s8.s3.free (pu.fr b hb).1, (pu.fr b hb).2⟩
          have hs6 : Same H6' Hd' := ((s8.s3.trans st.s3).trans ch)
          have L0 : ListsAt H2 Hd' D1 D2 ls kk 0 := ⟨fun b hb => (n8 b hb).2, ⟨_, hD1⟩, hD2, fun i a kd e1 e2 => by
            obtain ⟨vs, h1, h2⟩ := pu.it i a kd e1 e2
            exact ⟨vs, ch _ _ h1, by rw [if_neg (Nat.not_lt_zero _)]; exact h2.length⟩⟩
          have hnd : (D1 :: D2 :: ls).Nodup := List.nodup_cons.mpr ⟨nm, pu.nd⟩
          refine raw_ify (et_test (ed_op (ed_op (ed_var (i := 7) rfl) ed_int (rv_ixT rfl)) ed_str rv_eqS)) (st.s2.trans ch) E10 fun He He' se => ?_
          refine wr_appends (S := sysOf K) (g0 := some (.scr ns)) (g2 := some (barsT bs)) (g3 := some (.ptr a)) (g4 := some (.lst [.str "new", .str (nameAt ps i), .str (nameAt ps j)])) (g5 := some .non) (g6 := some (.lst [.int (i : Nat), .int (j : Nat)])) (g11 := none) (g12 := none) (g13 := none) (g14 := none) (g15 := none) (x8 := none) (x9 := none) (x10 := none) (ps := ps) (D1 := D1) (D2 := D2) (w := "spare") (H2 := He) (Hb := H6') pu.len hnd ekn lok.pn ekl (fun p hp => wlen_le A hp) (fun p x8 x9 x10 => tg_tup (ds := [.str p.name, spotD p, waysD p.ways]) (tgs_cons tg_name (tgs_cons tg_name (tgs_cons tg_name tgs_nil)))) (E10.mono se.s1) se.s2 (hs6.trans se.s3) (fun b hb => (n8 b hb).1) (L0.step pu.len se) fun σ' H4 H' y8 y9 y10 g1 g2 g3 Ey Ly => ?_
          refine wr_clears (S := sysOf K) (Dl := [D1, D2]) (w := "spare") (Hb := H6') rfl Ey g2 g3 (Nat.le_of_ble_eq_true rfl) (fun D' hm => ?_) (fun D' hm => ?_) (Nat.le_of_ble_eq_true rfl) (Nat.le_of_ble_eq_true rfl) fun σ' H' x k1 k2 Ex => q' σ' H' ⟨H4, _, _, _, x, _, (((s8.s1.trans st.s1).trans se.s1).trans g1), k1, k2, Ex⟩
          · have hm2 : D' ∈ D1 :: D2 :: ls := by
              simp only [List.mem_cons, List.not_mem_nil, or_false] at hm
              rcases hm with rfl | rfl
              · exact List.mem_cons_self
              · exact List.mem_cons_of_mem _ List.mem_cons_self
            exact ⟨Ly.ap D' hm2, (n8 D' hm2).1⟩
          · simp only [List.mem_cons, List.not_mem_nil, or_false] at hm
            rcases hm with rfl | rfl
            · exact Ly.d1
            · exact ⟨_, Ly.d2⟩
      · rintro σ' H' ⟨Hx, x8, x9, x10, x11, ptrs, g1, g2, g3, Ex⟩
        have fdx := fd.mono g1
        obtain ⟨dst, et⟩ := told_tag r
        have A2 := askok_of pok pl5 bok bl7 lj li (Ne.symm ne) (.inr rfl : ("other" : Str) = "new" ∨ _)
        have right2 := tell_right A2
        have et2 := tag_swap (m := "other") A
        obtain ⟨r2, hr2⟩ : ∃ r, r = tellOf (frameOf ps bs) "other" (nameAt ps j) (nameAt ps i) := ⟨_, rfl⟩
        rw [← hr', ← hr2] at et2
        rw [← hr2] at right2
        obtain ⟨dst2, et3⟩ := told_tag r2
        rw [et2] at et3
        have bi2 : ∀ b ∈ bs, b.2.1 < ps.length ∧ b.2.2 < ps.length := fun b hb => ⟨(lok.bi b hb).1, (lok.bi b hb).2.1⟩
        refine raw_gset rfl ((ed_askedT (ed_var (i := 3) rfl) (ed_var (i := 4) rfl) lok.frm pl5 A.none (Nat.le_trans hb7 (Nat.le_refl _))).to (y := toldD r) (by rw [← hr'])) g2 Ex fdx fun Hy Hy' σy sy Ey => ?_
        have fdy := fdx.mono sy.s1
        refine raw_gifn rfl (et_or (a := false) (b := false) (et_not (a := true) (et_B (ed_call (ea_cons (ed_var (i := 1) rfl) (ea_cons (ed_var (i := 2) rfl) (ea_cons (ed_var (i := 4) rfl) (ea_cons (ed_var (i := 6) rfl) (ea_cons (ed_var (i := 12) rfl) ea_nil))))) ⟨ps, bs, "new", nameAt ps i, nameAt ps j, i, j, toldD r, rfl, lok.gd, pl5, bl7, bi2, li, lj, right, rfl⟩))) fun _ => (et_test (ed_op (ed_op ((ed_var (i := 12) rfl).to et) ed_int (rv_ixT at_cons0)) (ed_op (ed_var (i := 7) rfl) ed_int (rv_ixT at_cons0)) rv_neS)).to (by simp)) sy.s2 Ey fdy fun Hz Hz' sz => ?_
        have fdz := fdy.mono sz.s1
        refine raw_gset rfl (ed_lst (ea_cons ed_str (ea_cons (ed_op (ed_var (i := 4) rfl) ed_int (rv_ixL rfl)) (ea_cons (ed_op (ed_var (i := 4) rfl) ed_int (rv_ixL rfl)) ea_nil)))) sz.s2 (Ey.mono sz.s1) fdz fun Hu Hu' σu su Eu => ?_
        have fdu := fdz.mono su.s1
        refine raw_gset rfl ((ed_askedT (ed_var (i := 3) rfl) (ed_var (i := 13) rfl) lok.frm pl5 A2.none (Nat.le_trans hb7 (Nat.le_refl _))).to (y := toldD r2) (by rw [← hr2])) su.s2 Eu fdu fun Hw Hw' σw sw Ew => ?_
        have fdw := fdu.mono sw.s1
        refine raw_gifn rfl (et_or (a := false) (b := false) (et_not (a := true) (et_B (ed_call (ea_cons (ed_var (i := 1) rfl) (ea_cons (ed_var (i := 2) rfl) (ea_cons (ed_var (i := 13) rfl) (ea_cons (ed_revL (ds := [.int (i : Nat), .int (j : Nat)]) (ed_var (i := 6) rfl)) (ea_cons (ed_var (i := 12) rfl) ea_nil))))) ⟨ps, bs, "other", nameAt ps j, nameAt ps i, j, i, toldD r2, rfl, lok.gd, pl5, bl7, bi2, lj, li, right2, rfl⟩))) fun _ => (et_test (ed_op (ed_op ((ed_var (i := 12) rfl).to et3) ed_int (rv_ixT at_cons0)) (ed_op (ed_var (i := 7) rfl) ed_int (rv_ixT at_cons0)) rv_neS)).to (by simp)) sw.s2 Ew fdw fun Hv Hv' sv => ?_
        have fdv := fdw.mono sv.s1
        refine raw_g (rg_ends lok A.sp) sv.s2 (Ew.mono sv.s1) fdv fun G5 σ5 H5 H5' p5 s5 E5 => ?_
        obtain ⟨y8, y13, y14, rfl⟩ := p5
        refine raw_ifb (b := decide (fieldL (cellAt ns 2) 5003 8 = 0)) (et_test (ed_op (ed_call (ea_cons (ed_call (ea_cons (ed_var (i := 0) rfl) (ea_cons ed_int ea_nil)) ⟨ns, 2, rfl, by decide, rfl⟩) (ea_cons ed_int (ea_cons ed_int ea_nil))) ⟨_, 5003, 8, rfl, by decide, by decide, by decide, rfl⟩) ed_int rv_eqI)) s5.s2 E5 (fun _ Hm Hm' sm => ?_) fun _ Hm Hm' sm => ?_
        · refine raw_retE (te_call ((ea_cons (ed_var (i := 3) rfl) (ea_cons (ed_var (i := 1) rfl) (ea_cons (ed_var (i := 2) rfl) (ea_cons (ed_var (i := 4) rfl) (ea_cons (ed_var (i := 6) rfl) ea_nil))))) _ Hm Hm' sm.s2 (E5.mono sm.s1) _ fun Hn Hn' vs sn dvs => ?_))
          have k1 : Same Hx Hn := ((((((sy.s1.trans sz.s1).trans su.s1).trans sw.s1).trans sv.s1).trans s5.s1).trans sm.s1).trans sn.s1
          have k2 : Same H' Hn' := ((((((sy.s3.trans sz.s3).trans su.s3).trans sw.s3).trans sv.s3).trans s5.s3).trans sm.s3).trans sn.s3
          obtain ⟨Hs, b1, b2, b3⟩ := (fp7.keep (g3.trans k2)).base ((f1.trans g1).trans k1) sn.s2
          cases dvs with
          | cons d1 t1 =>
            cases d1
            have t2 := b3 _ _ (.cons (flat_pins ps) (.cons (flat_bars bs) (.cons (.lst (.cons (.str _) (.cons (.str _) (.cons (.str _) .nil)))) (.cons (.lst (.cons (.int _) (.cons (.int _) .nil))) .nil)))) t1
            cases t2 with
            | cons e1 t2 =>
              cases t2 with
              | cons e2 t2 =>
                cases t2 with
                | cons e3 t2 =>
                  cases t2 with
                  | cons e4 t2 =>
                    cases t2
                    exact ⟨Hs, a, _, _, _, _, ps, bs, i, j, rfl, b1, b2, .cons e1 (.cons e2 (.cons e3 (.cons e4 .nil))), full_of pok pl5 bok bl7 li lj ne, fun H'' => q1 _ _ rfl⟩
        · exact raw_retE (q1 _ _ rfl)
    · have E8 := told_frame (S := sysOf K) rfl Ef fd
      refine RunZ.use (S := sysOf K) (R := fun _ _ v _ => v = .bl true) ?_ f2 E8 fun v H' hv => q1 v H' hv
      refine rz_seq sR (rd_set (ed_asked (ed_var rfl) (ed_var rfl) lok.frm pl5 hask) ?_)
      refine rz_if sR (b := false) (et_test (ed_op (ebn rfl) (enames rfl rfl) (rv_neNames sb))) (fun h => by cases h) fun _ => ?_
      have e4 : ∃ c z, errD er = .lst [.str c, .str z, .bl true, .bl false] ∧ PyData.strOk c = true ∧ PyData.strOk z = true := by
        cases er with
        | bar x' => exact ⟨_, _, rfl, by decide +kernel, herr⟩
        | pin x' => exact ⟨_, _, rfl, by decide +kernel, herr⟩
        | len x' => exact ⟨_, _, rfl, by decide +kernel, herr⟩
        | many => exact ⟨_, _, rfl, by decide +kernel, herr⟩
      obtain ⟨c, z, ez, cz1, cz2⟩ := e4
      have req : RvD (sysOf K) (rEqD K) (errD er) (errD er) (.bl true) := by rw [ez]; exact rv_eq4 (S := sysOf K) cz1 cz2
      refine rz_if sR (b := true) (et_test (ed_op (ed_var (i := 5) (d := errD er) rfl) ed_non (rv_notN (b := true) fun H v h => by rw [ez] at h; cases h; rfl))) (fun _ => ?_) (fun h => by cases h)
      exact rz_ret (ed_andV (a := true) (b := true) (ed_op (ed_var rfl) (ed_var rfl) req) fun _ => ed_op (ed_asked (ed_var rfl) (ed_var rfl) lok.frm pl5 hask) (ed_var rfl) req) fun H1 H H2 H' v s dv => by cases dv; rfl
end
end Ty
set_option Elab.async false
set_option linter.all false
set_option maxRecDepth 100000
set_option maxHeartbeats 4000000
/-! What the head's looks tell: the text's facts, the errors', the base's. -/
namespace Ty
open PySem PySem.Spec PyProof.Rows L2
theorem mnB_ok {K : PySem.W.Frag} {C : Addr} (h : mnB K C = true) : MkN K C := by
  obtain ⟨h1, h⟩ := He.ba h
  obtain ⟨h2, h3⟩ := He.ba h
  exact ⟨h1, He.eqO_ok h2, h3⟩
theorem oexO_ok {C : Addr} {o : Option Obj} (h : oexO C o = true) : ∃ nm q N bs bm sn sub ab col dd k0 k1 k2 k3 k5, o = some (excClassObj nm q C N bs bm true sn sub ab col dd k0 k1 k2 k3 k5 "ValueError.__new__") ∧ PySem.HandSPX.refsVE bm = true := by
  unfold oexO at h
  split at h
  · rename_i t dd cd sl
    obtain ⟨a1, b1⟩ := He.ba h
    obtain ⟨a2, b2⟩ := He.ba b1
    obtain ⟨a3, b3⟩ := He.ba b2
    obtain ⟨a4, a5⟩ := He.ba b3
    clear b3 b2 b1 h
    obtain ⟨nm, bs, mro, ns, qn, hd, sn, sub, ab, col, del⟩ := cd
    dsimp only at a2 a3 a4
    cases mro with
    | nil => cases a4
    | cons v bm =>
      cases v with
      | ref C' =>
        obtain ⟨a6, a7⟩ := He.ba (show (decide (C' = C) && PySem.HandSPX.refsVE bm) = true from a4)
        clear a4
        obtain ⟨l⟩ := sl
        dsimp only at a5
        split at a5
        · rename_i k0 k1 k2 k3 n k5
          have e1 := of_decide_eq_true a1
          have e2 := of_decide_eq_true a6
          have e3 := of_decide_eq_true a5
          have e4 : del = false := by simpa using a3
          subst e1 e2 e3 e4 a2
          exact ⟨nm, qn, ns, bs, bm, sn, sub, ab, col, dd, k0, k1, k2, k3, k5, rfl, a7⟩
        · cases a5
      | _ => cases a4
  · cases h
theorem oexB_ok {K : PySem.W.Frag} {C : Addr} (h : oexB K C = true) : OexC K C := by
  obtain ⟨h1, h⟩ := He.ba h
  obtain ⟨h2, h⟩ := He.ba h
  obtain ⟨h3, h⟩ := He.ba h
  obtain ⟨h4, h5⟩ := He.ba h
  exact ⟨oexO_ok h1, He.eqO_ok h2, of_decide_eq_true h3, of_decide_eq_true h4, h5⟩
theorem errB_ok {K : PySem.W.Frag} {C f : Str} (h : errB K C f = true) : ErrT K C f := by
  obtain ⟨h1, h⟩ := He.ba h
  obtain ⟨h2, h⟩ := He.ba h
  obtain ⟨h3, h⟩ := He.ba h
  obtain ⟨h4, h5⟩ := He.ba h
  exact ⟨oexB_ok h1, He.eqO_ok h2, of_decide_eq_true h3, He.eqO_ok h4, xfB_ok h5⟩
theorem yeB_ok {K : PySem.W.Frag} {Y : Addr} (h : yeB K Y = true) : YeC K Y := by
  obtain ⟨h1, h⟩ := He.ba h
  obtain ⟨h2, h3⟩ := He.ba h
  refine ⟨h1, He.eqO_ok h2, ?_⟩
  split at h3
  · rename_i n e
    rw [e, of_decide_eq_true h3]
  · cases h3
theorem exqC_ok {K : PySem.W.Frag} {D : Addr} (h : exqC K D = true) : ExcC K D := by
  obtain ⟨h1, h⟩ := He.ba h
  obtain ⟨h2, h⟩ := He.ba h
  obtain ⟨h3, h⟩ := He.ba h
  obtain ⟨h4, h⟩ := He.ba h
  obtain ⟨h5, h⟩ := He.ba h
  obtain ⟨h6, h⟩ := He.ba h
  obtain ⟨h7, h8⟩ := He.ba h
  exact ⟨He.eqO_ok h1, He.eqO_ok h2, of_decide_eq_true h3, h4, He.eqO_ok h5, He.eqO_ok h6, of_decide_eq_true h7, of_decide_eq_true h8⟩
theorem pairB_ok {f : Str → Str → Bool} (h : pairB f = true) : ∀ x ∈ errs, ∀ y ∈ errs, f x y = true := fun x hx y hy => List.all_eq_true.mp (List.all_eq_true.mp (show (errs.all fun x => errs.all fun y => f x y) = true from h) x hx) y hy
theorem exqB_ok {K : PySem.W.Frag} (h : exqB K = true) : Exq K := by
  obtain ⟨h1, h⟩ := He.ba h
  obtain ⟨h2, h⟩ := He.ba h
  obtain ⟨h3, h⟩ := He.ba h
  obtain ⟨h4, h⟩ := He.ba h
  obtain ⟨h5, h⟩ := He.ba h
  obtain ⟨h6, h⟩ := He.ba h
  obtain ⟨h7, h⟩ := He.ba h
  obtain ⟨h8, h⟩ := He.ba h
  obtain ⟨h9, h⟩ := He.ba h
  obtain ⟨h10, h⟩ := He.ba h
  obtain ⟨h11, h12⟩ := He.ba h
  exact ⟨errB_ok h1, errB_ok h2, errB_ok h3, yeB_ok h4, h5, h6, of_decide_eq_true h7, of_decide_eq_true h8, fun x hx => exqC_ok (List.all_eq_true.mp h9 x hx), fun x hx y hy => of_decide_eq_true (pairB_ok h10 x hx y hy), fun x hx y hy => of_decide_eq_true (pairB_ok h11 x hx y hy), fun x hx => of_decide_eq_true (List.all_eq_true.mp h12 x hx)⟩
theorem seer_base {K : PySem.W.Frag} {h base : Heap} (N : h.NoSeer) (X : K.In h) (XB : K.In base) (g : (He.Fa.glo "__builtins__").ok K = true) (e : seerB K = true) : base.NoSeer := by
  obtain ⟨e1, e⟩ := He.ba e
  obtain ⟨e2, e⟩ := He.ba e
  obtain ⟨e3, e⟩ := He.ba e
  obtain ⟨e4, e5⟩ := He.ba e
  have key : ∀ {a : Addr} {o : Obj}, (K.lookup a).isSome = true → h.get? a = some o → base.get? a = some o := fun {a o} he ho => by
    obtain ⟨u, hu⟩ := Option.isSome_iff_exists.mp he
    have := X a u hu
    rw [ho] at this
    cases this
    exact XB a o hu
  have nsk : ∀ {a : Addr} {m : Str → Option Value}, (K.lookup a).isSome = true → h.Ns a m → base.Ns a m := fun he hn => by
    obtain ⟨o, es, ep, ho, r⟩ := hn
    exact ⟨o, es, ep, key he ho, r⟩
  obtain ⟨mc, a1, a2⟩ := N.statics
  obtain ⟨mm, b1, b2⟩ := N.mods
  obtain ⟨mb, c1, c2⟩ := N.imp
  obtain ⟨mg, bm, ob, d1, d2, d3, d4⟩ := N.main
  have d5 := He.glo_ok X d1 g
  rw [d2] at d5
  cases d5
  exact ⟨⟨mc, nsk e1 a1, a2⟩, ⟨mm, nsk e2 b1, b2⟩, ⟨mb, nsk e3 c1, c2⟩, ⟨mg, _, ob, nsk e4 d1, d2, key e5 d3, d4⟩⟩
theorem says_mem {K : PySem.W.Frag} (c : He.SaysD fac dfs K) {f : He.Fa} (h : f ∈ fac) : f.ok K = true := by
  obtain ⟨c1, _⟩ := He.ba (show ((fac.all fun f => f.ok K) && dfs.all fun d => d.ok K) = true from congrArg (fun z : He.AlD => z.1) c)
  exact List.all_eq_true.mp c1 f h
theorem fd_of {K : PySem.W.Frag} {x q : Str} {ps : Arguments} {b : List Stmt} {sc : Scope} {vs : List V} {ks : List (Str × V)} {f : Addr} (h : ∃ fd, FunD K x q ps b sc vs ks f fd) : FunD K x q ps b sc vs ks f (fdAt K f) := by
  obtain ⟨fd, F⟩ := h
  have e : fdAt K f = fd := by
    obtain ⟨oc, od, _, _, _, _, _, _, _, osl, _, hl, _⟩ := F.ex
    unfold fdAt
    rw [hl]
  rw [e]
  exact F

theorem txt_of {K : PySem.W.Frag} {h : Heap} {mg : Str → Option Value} (X : K.In h) (G : h.Ns mainGlobals mg) (c : He.SaysD fac dfs K) (e : exB K = true) : Txt K mg := by
  have fs : ∀ (i : Nat) (f : He.Fa), fas[i]? = some f → f.ok K = true := fun i f hf => says_mem c (List.mem_append_left _ (List.mem_of_getElem? hf))
  obtain ⟨t1, e⟩ := He.ba e
  obtain ⟨t2, e⟩ := He.ba e
  obtain ⟨t3, e⟩ := He.ba e
  obtain ⟨t4, e⟩ := He.ba e
  obtain ⟨t5, e⟩ := He.ba e
  exact {
    glo := fun i x hx => He.glo_ok X G (says_mem c (List.mem_append_right _ (List.mem_append_left _ (List.mem_map.mpr ⟨x, List.mem_of_getElem? hx, rfl⟩)))),
    fre := fun i x hx => He.free_ok X G (says_mem c (List.mem_append_right _ (List.mem_append_right _ (List.mem_map.mpr ⟨x, List.mem_of_getElem? hx, rfl⟩)))),
    fn := fun i d hd => fd_of (c.def_ i hd),
    x_MOST_PINS := He.int_ok X G (fs 0 _ rfl),
    x_MOST_BARS := He.int_ok X G (fs 1 _ rfl),
    t_NE := fun H => He.tupB_ok (vs := [.int 0, .int 1]) t1 H,
    t_NS := fun H => He.tupB_ok (vs := [.int 0, .int 1]) t2 H,
    t_ONE := fun H => He.tupB_ok (vs := [.int 1, .int 1]) t3 H,
    cl_Hold := He.cls_ok (fs 2 _ rfl),
    cl_Roller := He.cls_ok (fs 3 _ rfl),
    cl_Fixed := He.cls_ok (fs 4 _ rfl),
    cl_Frame := He.cls_ok (fs 5 _ rfl),
    a_Frame_spots := He.noat_ok (fs 6 _ rfl),
    a_Frame_kept := He.noat_ok (fs 7 _ rfl),
    a_Frame_joints := He.noat_ok (fs 8 _ rfl),
    a_Roller_across := He.noat_ok (fs 9 _ rfl),
    a_Roller_upward := He.noat_ok (fs 10 _ rfl),
    m_Hold_ways := He.meth_ok (fs 11 _ rfl),
    m_Roller_ways := He.meth_ok (fs 12 _ rfl),
    m_Fixed_ways := He.meth_ok (fs 13 _ rfl),
    m_Frame_pin_at := He.meth_ok (fs 14 _ rfl),
    m_Frame_put_pin := He.meth_ok (fs 15 _ rfl),
    m_Frame_ask_bar := He.meth_ok (fs 16 _ rfl),
    m_Frame_put_bar := He.meth_ok (fs 17 _ rfl),
    m_Frame_pins := He.meth_ok (fs 18 _ rfl),
    m_Frame_bars := He.meth_ok (fs 19 _ rfl),
    m_Frame_place := He.meth_ok (fs 20 _ rfl),
    m_Frame_ways := He.meth_ok (fs 21 _ rfl),
    m_Frame_ends := He.meth_ok (fs 22 _ rfl),
    mk_Frame := He.mkr_ok (fs 23 _ rfl),
    mk_Roller := He.mkr_ok (fs 24 _ rfl),
    mn_Hold := mnB_ok t4,
    mn_Fixed := mnB_ok t5 }
theorem seer_of {K : PySem.W.Frag} (c : He.SaysD fac dfs K) : (He.Fa.glo "__builtins__").ok K = true := says_mem c (List.mem_append_left _ (List.mem_of_getElem? (i := 25) rfl))
theorem exq_of {K : PySem.W.Frag} (e : exB K = true) : Exq K ∧ seerB K = true := by
  obtain ⟨_, e⟩ := He.ba e
  obtain ⟨_, e⟩ := He.ba e
  obtain ⟨_, e⟩ := He.ba e
  obtain ⟨_, e⟩ := He.ba e
  obtain ⟨_, e⟩ := He.ba e
  obtain ⟨e1, e2⟩ := He.ba e
  exact ⟨exqB_ok e1, e2⟩
end Ty
set_option Elab.async false
set_option linter.all false
set_option maxRecDepth 100000
set_option maxHeartbeats 4000000
/-! The end: the row holds. -/
namespace Ty
open PySem PySem.Spec PyProof.Rows L2
theorem law_facts {P : Program} {w : World} {K : PySem.W.Frag} {h : Heap} {mg : Str → Option Value} {f : Addr} (X : K.In h) (G : h.Ns mainGlobals mg) (N : h.NoSeer) (hfa : mg ("law" : Str) = some (.ref f)) (ht : P.given.tree = none) (c : He.SaysD fac dfs K) (e : exB K = true) :
    ∃ fd : FuncData, (∀ (s : Shared) (v : Value), BindsTo s fd ⟨[v], []⟩ [("_law_script", v)]) ∧
      ∀ base : Heap, K.In base → base.Ns mainGlobals mg → FnOk P w K mg base CX0 50 f fd ["_law_script"] (Sp_law (sysOf K)) := by
  have T := txt_of X G c e
  obtain ⟨Xq, se⟩ := exq_of e
  have ef := hfa.symm.trans T.g_law
  cases ef
  have b := FunD.bindsA (ps := ["_law_script"]) T.F_law fun _ _ _ _ _ _ us hl => match us, hl with | [_], _ => rfl
  exact ⟨_, fun s v => b s [v] rfl, fun base kb _ => ok_law T ⟨seer_base N X kb (seer_of c) se, ht⟩ Xq⟩
/-- a law whose walk asks that the import's look finds nothing, too -/
theorem walk_seer {l : PySem.W.OpenLaw} {n k : Nat} {q : Program} {loose : List Str} {XP : (Str → Option Value) → Heap → Prop} {YP : World → Heap → Prop} {d : DefRec} {x : Str}
    (hn : l.most = some n) (hz : n ≤ sizeLine) (hdf : d.params.defaults = []) (hr : Room k callerA) (hi : importsNone q = true)
    (F : ∀ (w : World) (mg : Str → Option Value) (f : Addr) (h : Heap), YP w h → h.Ns mainGlobals mg → h.NoSeer → mg d.name = some (.ref f) →
      ∃ (K : PySem.W.Frag) (fd : FuncData) (sp : Sp), K.In h ∧ (∀ (s : Shared) (v : Value), BindsTo s fd ⟨[v], []⟩ [(x, v)]) ∧
        (∀ (H : Hp) (a : Addr) (ns : List Int), SqL K H a (ns.map V.int) → sp [.ref a] H (fun v _ => v = .bl true) fun _ _ _ => False) ∧
        ∀ b : Heap, K.In b → b.Ns mainGlobals mg → FnOk l.prog w K mg b CX0 k f fd [x] sp) :
    PySem.W.WalkO q loose XP YP l.row.toRowW d [] (fun f vs => PySem.call f vs) := by
  refine Att.attach_call hn hdf ?_
  intro w u v mg mb f o pm cd doc a vs ns G y _ _ _ em eo ei el eg
  obtain ⟨K, fd, sp, i1, i2, i3, i4⟩ := F w mg f _ y G.T.g (G.T.seer hi) em
  refine law_call (CX := CX0) i1 G.T.g G.T.b G.T.builtins G.T.nolimit eg eo ei ?_ hr i4 i2 (fun H _ hs => i3 H a ns hs) ?_
  · exact Nat.le_trans el hz
  · exact fun _ _ _ z => z
end Ty
open PySem PySem.W PySem.Calls PyProof.Rows
theorem PySem.Challenge.cw_trussyard_k51_a_bar_put_holds : PySem.Challenge.rw_trussyard_k51_a_bar_put.Holds := by
  w_on; o_law
  refine HandSHeadRun.head_any (r := Ty.rowR) (q := view Ty.rowR.prog [79]) (H := Ty.hookY) (ob := Ty.obT) (M := 6000) (loose := Ty.nms) (d := HandSHeadRun.topDef Ty.rowR.prog 79) (kwd := []) Ty.obT_eq
    (by kernel_rfl) (fun s => by kernel_rfl) Ty.head_run (by kernel_rfl) (by kernel_rfl) (by kernel_rfl) (by rfl) (by first | assumption | decide +kernel) (by decide +kernel) ⟨rfl, rfl, rfl, rfl, rfl, by decide +kernel⟩ ?hw ?hc
  case hw => w_witness2
  case hc =>
    refine Ty.walk_seer (l := PySem.Challenge.rw_trussyard_k51_a_bar_put) (n := 63) (k := 50) (x := "_law_script") rfl (by decide) (by kernel_rfl) ⟨rfl, by decide, by decide⟩ (by kernel_rfl) ?_
    intro w mg f h Y G N hm
    obtain ⟨K, KX, c, e⟩ := Y
    have hl : mg ("law" : PySem.Str) = some (.ref f) := by
      have en : (HandSHeadRun.topDef Ty.rowR.prog 79).name = ("law" : PySem.Str) := by kernel_rfl
      rw [← en]
      exact hm
    obtain ⟨fd, hb, hF⟩ := Ty.law_facts (P := PySem.Challenge.rw_trussyard_k51_a_bar_put.prog) (w := w) KX G N hl rfl c e
    exact ⟨K, fd, _, KX, hb, fun H a ns hS => ⟨H, ns, L2.Same.refl _, .cons (.scr hS) .nil, fun _ => rfl⟩, hF⟩
