import PyProof.Rows.All
import Wide.All
import OpenK.AllK
import Wide.FinOn
import KE.KStateDown
import Lean
import HandS.ForMost
import HandS.Flow
import HandS.Deep
import HandS.IsInst
import HandS.Zip
import HandS.Walk
import HandS.Evl
import HandS.Steps
import HandS.Defaults
import HandS.Exc
import HandS.WordsExc
import HandS.Head0
import HandS.Head1
import HandS.Head2
import HandS.HeadEnd
import HandS.HeadHook1
import HandS.HeadHook2
import HandS.HeadHook3
import KE.KUnpackStar
import HandS.NoneIn
import HandS.Conv
import HandS.HeadHook4
import PySem.Challenge.RW_treethaw_k77_across_one_hop_and_a_giver
set_option Elab.async false
set_option linter.all false
set_option maxRecDepth 100000
set_option maxHeartbeats 2000000
section
/-! General words of ours over the layer: promises bundled with where the def stands, data trees, frames. -/
namespace Rel
open PySem PySem.Spec PyProof.Rows L2 Evl
/-! ### a def with its promise -/
structure Fx (P : Program) (w : World) (K : PySem.W.Frag) (mg : Str → Option Value) (base : Heap) (CX : CXT) (x : Str) (ps : List Str) (k : Nat) (sp : Sp) where
  f : Addr
  fd : FuncData
  ok : FnOk P w K mg base CX k f fd ps sp
  g : mg x = some (.ref f)
  kp : PySem.W.keepIn K (.ref f) = true
  b : Binds K fd ps []
structure Mx (P : Program) (w : World) (K : PySem.W.Frag) (mg : Str → Option Value) (base : Heap) (CX : CXT) (C : Addr) (m : Str) (ps : List Str) (k : Nat) (sp : Sp) where
  f : Addr
  fd : FuncData
  ok : FnOk P w K mg base CX k f fd ps sp
  m : Meth K C m f
  b : Binds K fd ps []
structure Kx (P : Program) (w : World) (K : PySem.W.Frag) (mg : Str → Option Value) (base : Heap) (CX : CXT) (x : Str) (C : Addr) (ps : List Str) (k : Nat) (sp : Sp) where
  f : Addr
  fd : FuncData
  ok : FnOk P w K mg base CX k f fd ps sp
  g : mg x = some (.ref C)
  mkr : Mk K C f
  b : Binds K fd ps []
/-- one object alone may be another -/
def But (p : Addr) (H H' : Hp) : Prop := ∀ b o, b ≠ p → H b = some o → H' b = some o
theorem But.of_ex {p : Addr} {H H' : Hp} (e : Ex H H') : But p H H' := fun b o _ h => e b o h
theorem But.trans {p : Addr} {H H1 H2 : Hp} (a : But p H H1) (b : But p H1 H2) : But p H H2 := fun c o n h => b c o n (a c o n h)
theorem But.upd {p : Addr} {H : Hp} {o : HO} : But p H (upd H p o) := fun b u n h => by rw [upd_ne n]; exact h
theorem But.ex {p : Addr} {H H1 H2 : Hp} (a : But p H H1) (e : Ex H1 H2) : But p H H2 := fun c o n h => e c o (a c o n h)
/-! ### calls of built-ins, told by values -/
section
variable {K : PySem.W.Frag} {H : Hp}
theorem rc_int1 {i : Int} : RC (fun xs H Q => (∃ i, xs = [V.int i] ∧ Q (.int i) H) ∨ ∃ k, xs = [V.bl k] ∧ Q (.int (if k then 1 else 0)) H) [.int i] H (.int i) := fun H1 _ _ q => .inl ⟨i, rfl, q H1 (Ex.refl H1)⟩
theorem rc_intB {b : Bool} : RC (fun xs H Q => (∃ i, xs = [V.int i] ∧ Q (.int i) H) ∨ ∃ k, xs = [V.bl k] ∧ Q (.int (if k then 1 else 0)) H) [.bl b] H (.int (if b then 1 else 0)) := fun H1 _ _ q => .inr ⟨b, rfl, q H1 (Ex.refl H1)⟩
theorem rc_abs {i : Int} : RC (fun xs H Q => ∃ i, xs = [V.int i] ∧ Q (.int (if i < 0 then -i else i)) H) [.int i] H (.int (if i < 0 then -i else i)) := fun H1 _ _ q => ⟨i, rfl, q H1 (Ex.refl H1)⟩
theorem rc_lenL {p : Addr} {xs : List V} (h : SqL K H p xs) : RC (fun xs H Q => ∃ x n, xs = [x] ∧ LenV K x H n ∧ Q (.int n) H) [.ref p] H (.int xs.length) := fun H1 e _ q => ⟨.ref p, xs.length, rfl, .inl ⟨xs, ex_l e h, rfl⟩, q H1 (Ex.refl H1)⟩
theorem rc_lenT {p : Addr} {xs : List V} (h : SqT K H p xs) : RC (fun xs H Q => ∃ x n, xs = [x] ∧ LenV K x H n ∧ Q (.int n) H) [.ref p] H (.int xs.length) := fun H1 e _ q => ⟨.ref p, xs.length, rfl, .inr ⟨xs, ex_t e h, rfl⟩, q H1 (Ex.refl H1)⟩
theorem rc_lenS {z : Str} (h : z.length ≤ sizeLine) : RC (fun xs H Q => ∃ x n, xs = [x] ∧ LenV K x H n ∧ Q (.int n) H) [.str z] H (.int z.length) := fun H1 e _ q => ⟨.str z, z.length, rfl, ⟨h, rfl⟩, q H1 (Ex.refl H1)⟩
end
end Rel
namespace Rel
open PySem PySem.Spec PyProof.Rows L2 Evl
/-- a table of the module's top: text keys, numbers; texts that are no keys -/
structure DicC (K : PySem.W.Frag) (w : World) (a : Addr) (kvs : List (Str × Int)) (out : List Str) : Prop where
  kd : ∃ es n, KDict K w a es n
  val : ∀ q ∈ kvs, ∃ t, PySem.W.nsIn K a q.1 = some (some (.int q.2 t))
  no : ∀ z ∈ out, PySem.W.nsIn K a z = some none
def rInC (a : Addr) (kvs : List (Str × Int)) (out : List Str) (neg : Bool) : R2 := fun x y H Q => ∃ z, x = .str z ∧ y = .ref a ∧ ((∃ i, (z, i) ∈ kvs ∧ Q (.bl (!neg)) H) ∨ (z ∈ out ∧ Q (.bl neg) H))
def rIxC (a : Addr) (kvs : List (Str × Int)) : R2 := fun x y H Q => ∃ z i, x = .ref a ∧ y = .str z ∧ (z, i) ∈ kvs ∧ Q (.int i) H
section
variable {X : Cx} {a : Addr} {kvs : List (Str × Int)} {out : List Str}
theorem op_inC (D : DicC X.K X.w a kvs out) : OpR X (compareOp .In) (rInC a kvs out false) := by
  obtain ⟨es, n, kd⟩ := D.kd
  intro pins s σ H x y v u Q I rx ry h
  obtain ⟨z, rfl, rfl, h⟩ := h
  rcases h with ⟨i, hi, q⟩ | ⟨hz, q⟩
  · obtain ⟨t, e⟩ := D.val _ hi
    exact op_in_kd kd pins s σ H _ _ v u Q I rx ry ⟨z, _, rfl, rfl, e, q⟩
  · exact op_in_kd kd pins s σ H _ _ v u Q I rx ry ⟨z, _, rfl, rfl, D.no z hz, q⟩
theorem op_ninC (D : DicC X.K X.w a kvs out) : OpR X (compareOp .NotIn) (rInC a kvs out true) := by
  obtain ⟨es, n, kd⟩ := D.kd
  intro pins s σ H x y v u Q I rx ry h
  obtain ⟨z, rfl, rfl, h⟩ := h
  rcases h with ⟨i, hi, q⟩ | ⟨hz, q⟩
  · obtain ⟨t, e⟩ := D.val _ hi
    exact op_notIn_kd kd pins s σ H _ _ v u Q I rx ry ⟨z, _, rfl, rfl, e, q⟩
  · exact op_notIn_kd kd pins s σ H _ _ v u Q I rx ry ⟨z, _, rfl, rfl, D.no z hz, q⟩
theorem ix_C (D : DicC X.K X.w a kvs out) : IxR X (rIxC a kvs) := by
  obtain ⟨es, n, kd⟩ := D.kd
  intro value slice pins s σ H x y v u Q I rx ry h hs
  obtain ⟨z, i, rfl, rfl, hi, q⟩ := h
  obtain ⟨t, e⟩ := D.val _ hi
  exact ix_kdict value slice pins s σ H _ _ v u Q I rx ry ⟨a, z, .int i, rfl, rfl, ⟨es, n, _, kd.at_, kd.lit, e, ⟨t, rfl⟩⟩, q⟩ hs
end
end Rel
end
section
namespace Rel
open PySem PySem.Spec PyProof.Rows L2 Evl
/-! ### data: what a value is, as a tree of lists and tuples that are tracked, none of them at an address of N -/
mutual
inductive Da (N : Addr → Prop) (H : Hp) : V → PyData → Prop
  | non : Da N H .non .none
  | bl (b : Bool) : Da N H (.bl b) (.bool b)
  | int (i : Int) : Da N H (.int i) (.int i)
  | str (x : Str) : Da N H (.str x) (.str x)
  | lst {a : Addr} {xs : List V} {ds : List PyData} : H a = some (.lst xs) → ¬ N a → DaAll N H xs ds → Da N H (.ref a) (.list ds)
  | tup {a : Addr} {xs : List V} {ds : List PyData} : H a = some (.tup xs) → ¬ N a → DaAll N H xs ds → Da N H (.ref a) (.tuple ds)
inductive DaAll (N : Addr → Prop) (H : Hp) : List V → List PyData → Prop
  | nil : DaAll N H [] []
  | cons {v : V} {vs : List V} {d : PyData} {ds : List PyData} : Da N H v d → DaAll N H vs ds → DaAll N H (v :: vs) (d :: ds)
end
/-- nowhere barred -/
abbrev N0 : Addr → Prop := fun _ => False
/-- others' new objects -/
def Nw (H H1 : Hp) : Addr → Prop := fun a => H a = none ∧ H1 a ≠ none
mutual
/-- another heap, other bars -/
theorem Da.to {N N' : Addr → Prop} {H H' : Hp} (e : ∀ a o, H a = some o → ¬ N a → H' a = some o ∧ ¬ N' a) : ∀ {v : V} {d : PyData}, Da N H v d → Da N' H' v d
  | _, _, .non => .non
  | _, _, .bl b => .bl b
  | _, _, .int i => .int i
  | _, _, .str x => .str x
  | _, _, .lst h n hs => .lst (e _ _ h n).1 (e _ _ h n).2 (DaAll.to e hs)
  | _, _, .tup h n hs => .tup (e _ _ h n).1 (e _ _ h n).2 (DaAll.to e hs)
theorem DaAll.to {N N' : Addr → Prop} {H H' : Hp} (e : ∀ a o, H a = some o → ¬ N a → H' a = some o ∧ ¬ N' a) : ∀ {vs : List V} {ds : List PyData}, DaAll N H vs ds → DaAll N' H' vs ds
  | _, _, .nil => .nil
  | _, _, .cons h hs => .cons (Da.to e h) (DaAll.to e hs)
end
theorem Da.ex {N : Addr → Prop} {H H' : Hp} {v : V} {d : PyData} (e : Ex H H') (h : Da N H v d) : Da N H' v d := h.to fun a o q n => ⟨e a o q, n⟩
theorem DaAll.ex {N : Addr → Prop} {H H' : Hp} {vs : List V} {ds : List PyData} (e : Ex H H') (h : DaAll N H vs ds) : DaAll N H' vs ds := h.to fun a o q n => ⟨e a o q, n⟩
theorem Da.anti {N N' : Addr → Prop} {H : Hp} {v : V} {d : PyData} (h : Da N H v d) (e : ∀ a, N' a → N a) : Da N' H v d := h.to fun a o q n => ⟨q, fun z => n (e a z)⟩
theorem DaAll.anti {N N' : Addr → Prop} {H : Hp} {vs : List V} {ds : List PyData} (h : DaAll N H vs ds) (e : ∀ a, N' a → N a) : DaAll N' H vs ds := h.to fun a o q n => ⟨q, fun z => n (e a z)⟩
theorem Da.zero {N : Addr → Prop} {H : Hp} {v : V} {d : PyData} (h : Da N H v d) : Da N0 H v d := h.anti fun _ z => z.elim
theorem DaAll.zero {N : Addr → Prop} {H : Hp} {vs : List V} {ds : List PyData} (h : DaAll N H vs ds) : DaAll N0 H vs ds := h.anti fun _ z => z.elim
/-- what stands in H is at none of the others' new objects -/
theorem Da.nw {H H1 H2 : Hp} {v : V} {d : PyData} (h : Da N0 H v d) (e : Ex H H2) : Da (Nw H H1) H2 v d := h.to fun a o q _ => ⟨e a o q, fun z => by rw [z.1] at q; cases q⟩
theorem Nw.new {H H1 H2 : Hp} {p : Addr} (e : Ex H1 H2) (h : H2 p = none) : ¬ Nw H H1 p := fun z => z.2 (fresh_back e h)
theorem Nw.sub {H H1 H2 : Hp} (e : Ex H1 H2) : ∀ a, Nw H H1 a → Nw H H2 a := fun a z => ⟨z.1, fun q => z.2 (fresh_back e q)⟩
theorem Nw.sub2 {H H' H1 : Hp} (e : Ex H H') : ∀ a, Nw H' H1 a → Nw H H1 a := fun a z => ⟨fresh_back e z.1, z.2⟩
mutual
theorem Da.dp {N : Addr → Prop} {K : PySem.W.Frag} {H : Hp} : ∀ {v : V} {d : PyData}, Da N H v d → Dp K H v d
  | _, _, .non => .non
  | _, _, .bl b => .bl b
  | _, _, .int i => .int i
  | _, _, .str x => .str x
  | _, _, .lst h _ hs => .lst (sq_of h) (DaAll.dp hs)
  | _, _, .tup h _ hs => .tup (st_of h) (DaAll.dp hs)
theorem DaAll.dp {N : Addr → Prop} {K : PySem.W.Frag} {H : Hp} : ∀ {vs : List V} {ds : List PyData}, DaAll N H vs ds → DpAll K H vs ds
  | _, _, .nil => .nil
  | _, _, .cons h hs => .cons (Da.dp h) (DaAll.dp hs)
end
section
variable {N : Addr → Prop} {H : Hp} {v : V} {vs : List V} {ds : List PyData}
theorem Da.non_inv (h : Da N H v .none) : v = .non := by cases h; rfl
theorem Da.bl_inv {b : Bool} (h : Da N H v (.bool b)) : v = .bl b := by cases h; rfl
theorem Da.int_inv {i : Int} (h : Da N H v (.int i)) : v = .int i := by cases h; rfl
theorem Da.str_inv {x : Str} (h : Da N H v (.str x)) : v = .str x := by cases h; rfl
theorem Da.lst_inv (h : Da N H v (.list ds)) : ∃ a xs, v = .ref a ∧ H a = some (.lst xs) ∧ ¬ N a ∧ DaAll N H xs ds := by
  cases h with
  | lst h n hs => exact ⟨_, _, rfl, h, n, hs⟩
theorem Da.tup_inv (h : Da N H v (.tuple ds)) : ∃ a xs, v = .ref a ∧ H a = some (.tup xs) ∧ ¬ N a ∧ DaAll N H xs ds := by
  cases h with
  | tup h n hs => exact ⟨_, _, rfl, h, n, hs⟩
theorem DaAll.length : ∀ {vs : List V} {ds : List PyData}, DaAll N H vs ds → vs.length = ds.length
  | _, _, .nil => rfl
  | _, _, .cons _ t => by rw [List.length_cons, List.length_cons, DaAll.length t]
theorem DaAll.get : ∀ {vs : List V} {ds : List PyData} {i : Nat} {x : V}, DaAll N H vs ds → vs[i]? = some x → ∃ d, ds[i]? = some d ∧ Da N H x d
  | _, _, _, _, .nil, e => by simp at e
  | _, _, 0, _, .cons h _, e => by simp at e; subst e; exact ⟨_, rfl, h⟩
  | _, _, i + 1, x, .cons _ t, e => by
    obtain ⟨d, h1, h2⟩ := DaAll.get (i := i) (x := x) t (by simpa using e)
    exact ⟨d, by simpa using h1, h2⟩
theorem DaAll.append : ∀ {vs : List V} {ds : List PyData} {us : List V} {es : List PyData}, DaAll N H vs ds → DaAll N H us es → DaAll N H (vs ++ us) (ds ++ es)
  | _, _, _, _, .nil, s => s
  | _, _, _, _, .cons h t, s => .cons h (DaAll.append t s)
theorem DaAll.take : ∀ {vs : List V} {ds : List PyData} (n : Nat), DaAll N H vs ds → DaAll N H (vs.take n) (ds.take n)
  | _, _, 0, _ => .nil
  | _, _, _ + 1, .nil => .nil
  | _, _, n + 1, .cons h t => .cons h (DaAll.take n t)
theorem DaAll.drop : ∀ {vs : List V} {ds : List PyData} (n : Nat), DaAll N H vs ds → DaAll N H (vs.drop n) (ds.drop n)
  | _, _, 0, s => s
  | _, _, _ + 1, .nil => .nil
  | _, _, n + 1, .cons _ t => DaAll.drop n t
theorem DaAll.one {d : PyData} (h : Da N H v d) : DaAll N H [v] [d] := .cons h .nil
theorem DaAll.mapD {α : Type} {f : α → V} {g : α → PyData} (h : ∀ a, Da N H (f a) (g a)) : ∀ l : List α, DaAll N H (l.map f) (l.map g)
  | [] => .nil
  | a :: l => .cons (h a) (DaAll.mapD h l)
theorem DaAll.bls {bs : List Bool} (h : DaAll N H vs (bs.map PyData.bool)) : vs = bs.map V.bl := by
  induction bs generalizing vs with
  | nil => cases h; rfl
  | cons b bs ih =>
    cases h with
    | cons h1 h2 => rw [h1.bl_inv, ih h2]; rfl
theorem DaAll.ints {is : List Int} (h : DaAll N H vs (is.map PyData.int)) : vs = is.map V.int := by
  induction is generalizing vs with
  | nil => cases h; rfl
  | cons b bs ih =>
    cases h with
    | cons h1 h2 => rw [h1.int_inv, ih h2]; rfl
theorem DaAll.strs {zs : List Str} (h : DaAll N H vs (zs.map PyData.str)) : vs = zs.map V.str := by
  induction zs generalizing vs with
  | nil => cases h; rfl
  | cons b bs ih =>
    cases h with
    | cons h1 h2 => rw [h1.str_inv, ih h2]; rfl
end
/-- the type's name -/
def tyN : PyData → String
  | .none => "NoneType"
  | .bool _ => "bool"
  | .int _ => "int"
  | .str _ => "str"
  | .list _ => "list"
  | .tuple _ => "tuple"
  | .dict _ => "dict"
theorem Da.ty {N : Addr → Prop} {K : PySem.W.Frag} {H : Hp} {v : V} {d : PyData} (h : Da N H v d) : TyX K H v (.type (tyN d)) := by
  cases h with
  | non => exact .base .non
  | bl b => exact .base (.bl b)
  | int i => exact .base (.int i)
  | str x => exact .base (.str x)
  | lst h _ _ => exact .base (.lst h)
  | tup h _ _ => exact .base (.tup h)
/-! ### what evaluates to data -/
def EvD (te : TE) (σ : L2.St) (H : Hp) (d : PyData) : Prop := ∀ H1, Ex H H1 → ∀ Q : VK, (∀ v H2, Ex H1 H2 → Da (Nw H H1) H2 v d → Q v H2) → te σ H1 Q
def EvDA (ta : TA) (σ : L2.St) (H : Hp) (ds : List PyData) : Prop := ∀ H1, Ex H H1 → ∀ Q : List V → Hp → Prop, (∀ vs H2, Ex H1 H2 → DaAll (Nw H H1) H2 vs ds → Q vs H2) → ta σ H1 Q
/-- a call's promise in data -/
def SpD (sp : Sp) (ds : List PyData) (d : PyData) : Prop := ∀ (N : Addr → Prop) vs H, (∀ a, N a → H a ≠ none) → DaAll N H vs ds → ∀ (Q : VK) (E : XK), (∀ v H2, Ex H H2 → Da N H2 v d → Q v H2) → sp vs H Q E
section
variable {N : Addr → Prop} {K : PySem.W.Frag} {σ : L2.St} {H H' : Hp} {ta tb te tx : TE} {t u : TT} {x y z v : V} {r : R2} {d d' : PyData} {tA tB : TA} {ds ds' : List PyData}
theorem EvD.mono (e : Ex H H') (h : EvD te σ H d) : EvD te σ H' d := fun H1 a Q q => h H1 (e.trans a) Q fun v H2 e2 hd => q v H2 e2 (hd.anti (Nw.sub2 e))
theorem EvDA.mono (e : Ex H H') (h : EvDA tA σ H ds) : EvDA tA σ H' ds := fun H1 a Q q => h H1 (e.trans a) Q fun v H2 e2 hd => q v H2 e2 (hd.anti (Nw.sub2 e))
/-- in the middle of an evaluation -/
theorem EvD.at (h : EvD te σ H d) {H1 : Hp} (e : Ex H H1) {H0 : Hp} (e0 : Ex H0 H1) {Q : VK} (q : ∀ v H2, Ex H1 H2 → Da (Nw H H0) H2 v d → Q v H2) : te σ H1 Q := h H1 e Q fun v H2 e2 hd => q v H2 e2 (hd.anti (Nw.sub e0))
theorem EvDA.at (h : EvDA tA σ H ds) {H1 : Hp} (e : Ex H H1) {H0 : Hp} (e0 : Ex H0 H1) {Q : List V → Hp → Prop} (q : ∀ v H2, Ex H1 H2 → DaAll (Nw H H0) H2 v ds → Q v H2) : tA σ H1 Q := h H1 e Q fun v H2 e2 hd => q v H2 e2 (hd.anti (Nw.sub e0))
theorem ed_ev (h : Ev te σ H v) (hd : Da N0 H v d) : EvD te σ H d := fun H1 e Q q => h H1 e Q fun H2 e2 => q v H2 e2 (hd.nw (e.trans e2))
theorem ed_var {i : Nat} (h : σ[i]? = some (some v)) (hd : Da N0 H v d) : EvD (tVar i) σ H d := ed_ev (ev_var h) hd
theorem ed_int {i : Int} (h : Ev te σ H (.int i)) : EvD te σ H (.int i) := ed_ev h (.int i)
theorem ed_str {i : Str} (h : Ev te σ H (.str i)) : EvD te σ H (.str i) := ed_ev h (.str i)
theorem ed_bl {b : Bool} (h : Ev te σ H (.bl b)) : EvD te σ H (.bool b) := ed_ev h (.bl b)
theorem ed_non (h : Ev te σ H .non) : EvD te σ H .none := ed_ev h .non
theorem ev_ed (h : EvD te σ H d) (hv : ∀ N H v, Da N H v d → v = x) : Ev te σ H x := fun H1 e Q q => h H1 e Q fun v H2 e2 hd => by rw [hv _ H2 v hd]; exact q H2 e2
theorem ev_edI {i : Int} (h : EvD te σ H (.int i)) : Ev te σ H (.int i) := ev_ed h fun _ _ _ => Da.int_inv
theorem ev_edS {i : Str} (h : EvD te σ H (.str i)) : Ev te σ H (.str i) := ev_ed h fun _ _ _ => Da.str_inv
theorem ev_edB {i : Bool} (h : EvD te σ H (.bool i)) : Ev te σ H (.bl i) := ev_ed h fun _ _ _ => Da.bl_inv
theorem ev_edN (h : EvD te σ H .none) : Ev te σ H .non := ev_ed h fun _ _ _ => Da.non_inv
theorem da_nil : EvDA tNil σ H [] := fun H1 _ _ q => q [] H1 (Ex.refl H1) .nil
theorem da_cons {tr : TA} (h : EvD te σ H d) (hr : EvDA tr σ H ds) : EvDA (tCons te tr) σ H (d :: ds) := fun H1 e _ q =>
  h H1 e _ fun v H2 e2 hv => hr.at (e.trans e2) e2 fun vs H3 e3 hs => q _ H3 (e2.trans e3) (.cons (hv.ex e3) hs)
theorem ed_tup (h : EvDA tA σ H ds) (hl : ds.length ≤ 100000) : EvD (tTup tA) σ H (.tuple ds) := fun H1 e _ q =>
  h H1 e _ fun vs H2 e2 hs => ⟨by rw [hs.length]; exact sz_of hl, fun p hp => q _ _ (e2.trans (Ex.new hp)) (.tup upd_same (Nw.new e2 hp) (hs.ex (Ex.new hp)))⟩
theorem ed_lst (h : EvDA tA σ H ds) (hl : ds.length ≤ 100000) : EvD (tLst tA) σ H (.list ds) := fun H1 e _ q =>
  h H1 e _ fun vs H2 e2 hs => ⟨by rw [hs.length]; exact sz_of hl, fun p hp => q _ _ (e2.trans (Ex.new hp)) (.lst upd_same (Nw.new e2 hp) (hs.ex (Ex.new hp)))⟩
theorem ed_call {sp : Sp} {E : XK} (h : EvDA tA σ H ds) (hs : SpD sp ds d) : EvD (tCall sp [] E tA) σ H d := fun H1 e Q q =>
  h H1 e _ fun vs H2 e2 hv => by
    show sp (vs ++ []) H2 Q E
    rw [List.append_nil]
    exact hs (Nw H H1) vs H2 (fun a z hn => z.2 (fresh_back e2 hn)) hv Q E fun v H3 e3 hd => q v H3 (e2.trans e3) hd
theorem ed_cat (ha : EvD ta σ H (.list ds)) (hb : EvD tb σ H (.list ds')) (hl : ds.length + ds'.length ≤ 100000) : EvD (tOp rCat ta tb) σ H (.list (ds ++ ds')) := fun H1 e Q q =>
  ha H1 e _ fun v H2 e2 hv => hb.at (e.trans e2) e2 fun u H3 e3 hu => by
    obtain ⟨a, xs, rfl, h1, _, h2⟩ := hv.lst_inv
    obtain ⟨b, ys, rfl, h3, _, h4⟩ := hu.lst_inv
    refine ⟨a, b, xs, ys, rfl, rfl, e3 _ _ h1, h3, sz_of (by rw [h2.length, h4.length]; exact hl), fun p hp => q _ _ ((e2.trans e3).trans (Ex.new hp)) (.lst upd_same (Nw.new (e2.trans e3) hp) ?_)⟩
    exact ((h2.ex e3).append h4).ex (Ex.new hp)
theorem ed_catT (ha : EvD ta σ H (.tuple ds)) (hb : EvD tb σ H (.tuple ds')) (hl : ds.length + ds'.length ≤ 100000) (hn : ds ≠ []) : EvD (tOp (rCatT K) ta tb) σ H (.tuple (ds ++ ds')) := fun H1 e Q q =>
  ha H1 e _ fun v H2 e2 hv => hb.at (e.trans e2) e2 fun u H3 e3 hu => by
    obtain ⟨a, xs, rfl, h1, n1, h2⟩ := hv.tup_inv
    obtain ⟨b, ys, rfl, h3, _, h4⟩ := hu.tup_inv
    refine ⟨a, b, xs, ys, rfl, rfl, st_of (e3 _ _ h1), st_of h3, fun z => hn ?_, sz_of (by rw [h2.length, h4.length]; exact hl), fun z => ?_, fun _ p hp => q _ _ ((e2.trans e3).trans (Ex.new hp)) (.tup upd_same (Nw.new (e2.trans e3) hp) ?_)⟩
    · subst z
      cases h2; rfl
    · subst z
      have z2 : ds' = [] := by cases h4; rfl
      subst z2
      refine q _ _ (e2.trans e3) (.tup (e3 _ _ h1) n1 ?_)
      rw [List.append_nil]
      exact h2.ex e3
    · exact ((h2.ex e3).append h4).ex (Ex.new hp)
theorem ed_if {b : Bool} (h : EvT t σ H b) (h1 : b = true → EvD ta σ H d) (h2 : b = false → EvD tb σ H d) : EvD (tIf t ta tb) σ H d := fun H1 e Q q => h H1 e _ fun H2 e2 => by
  cases b with
  | true => exact (h1 rfl).at (e.trans e2) e2 fun v H3 e3 => q v H3 (e2.trans e3)
  | false => exact (h2 rfl).at (e.trans e2) e2 fun v H3 e3 => q v H3 (e2.trans e3)
theorem ev_eqD (ha : EvD ta σ H d) (hb : EvD tb σ H d') (h1 : SeqAt.shaped d = true) (h2 : SeqAt.shaped d' = true) : Ev (tOp (rEqD K) ta tb) σ H (.bl (PyData.eqv d d')) := fun H1 e Q q =>
  ha H1 e _ fun v H2 e2 hv => hb H2 (e.trans e2) _ fun u H3 e3 hu => ⟨d, d', (hv.ex e3).dp, hu.dp, h1, h2, q H3 (e2.trans e3)⟩
theorem ev_neD (ha : EvD ta σ H d) (hb : EvD tb σ H d') (h1 : SeqAt.shaped d = true) (h2 : SeqAt.shaped d' = true) : Ev (tOp (rNeD K) ta tb) σ H (.bl (!PyData.eqv d d')) := fun H1 e Q q =>
  ha H1 e _ fun v H2 e2 hv => hb H2 (e.trans e2) _ fun u H3 e3 hu => ⟨d, d', (hv.ex e3).dp, hu.dp, h1, h2, q H3 (e2.trans e3)⟩
theorem ev_isi {T : String} {b : Bool} (h : EvD te σ H d) (hb : kitB (tyN d) T = some b) : Ev (tCB (rIsi K) (tCons te (tCons (tC (.ty T)) tNil))) σ H (.bl b) := fun H1 e Q q =>
  h H1 e _ fun v H2 e2 hd => ⟨v, .ty T, .type (tyN d), .type T, b, rfl, .ty T, hd.ty, kit_ty hb, q H2 e2⟩
theorem ev_isiT {T U : String} {a b : Bool} (h : EvD te σ H d) (ha : kitB (tyN d) T = some a) (hb : kitB (tyN d) U = some b) :
    Ev (tCB (rIsiT K) (tCons te (tCons (tTup (tCons (tC (.ty T)) (tCons (tC (.ty U)) tNil))) tNil))) σ H (.bl (a || b)) := fun H1 e Q q =>
  h H1 e _ fun v H2 e2 hd => ⟨by show 2 ≤ sizeLine; decide, fun p hp => ⟨v, p, [.ty T, .ty U], .type (tyN d), [.type T, .type U], a || b, rfl, upd_same, .cons (.ty T) (.cons (.ty U) .nil), (hd.ex (Ex.new hp)).ty, by
    refine kitAny_cons (kit_ty ha) (fun z => ?_) (fun z => by rw [z]; rfl)
    rw [z, Bool.false_or]
    exact kitAny_cons (kit_ty hb) (fun z => by rw [z]; exact kitAny_nil) (fun z => z), q _ (e2.trans (Ex.new hp))⟩⟩
abbrev rLenU (K : PySem.W.Frag) : List V → Hp → VK → Prop := fun xs H Q => ∃ x n, xs = [x] ∧ LenV K x H n ∧ Q (.int n) H
abbrev rLstOf (K : PySem.W.Frag) : List V → Hp → VK → Prop := fun xs H Q => ∃ p ys, xs = [.ref p] ∧ (SqL K H p ys ∨ SqT K H p ys) ∧ ∀ l, H l = none → Q (.ref l) (upd H l (.lst ys))
abbrev rTupOf (K : PySem.W.Frag) : List V → Hp → VK → Prop := fun xs H Q => ∃ p ys, xs = [.ref p] ∧ ((SqL K H p ys ∧ ∀ l, H l = none → Q (.ref l) (upd H l (.tup ys))) ∨ (SqT K H p ys ∧ Q (.ref p) H))
theorem ev_lenL (h : EvD te σ H (.list ds)) : Ev (tCB (rLenU K) (tCons te tNil)) σ H (.int ds.length) := fun H1 e Q q =>
  h H1 e _ fun v H2 e2 hd => by
    obtain ⟨a, xs, rfl, h1, _, h2⟩ := hd.lst_inv
    refine ⟨.ref a, xs.length, rfl, .inl ⟨xs, sq_of h1, rfl⟩, ?_⟩
    rw [h2.length]
    exact q H2 e2
theorem ev_lenT (h : EvD te σ H (.tuple ds)) : Ev (tCB (rLenU K) (tCons te tNil)) σ H (.int ds.length) := fun H1 e Q q =>
  h H1 e _ fun v H2 e2 hd => by
    obtain ⟨a, xs, rfl, h1, _, h2⟩ := hd.tup_inv
    refine ⟨.ref a, xs.length, rfl, .inr ⟨xs, st_of h1, rfl⟩, ?_⟩
    rw [h2.length]
    exact q H2 e2
theorem ev_all {bs : List Bool} (h : EvD te σ H (.list (bs.map PyData.bool))) : Ev (tCB (rAll K) (tCons te tNil)) σ H (.bl (bs.all id)) := fun H1 e Q q =>
  h H1 e _ fun v H2 e2 hd => by
    obtain ⟨a, xs, rfl, h1, _, h2⟩ := hd.lst_inv
    exact ⟨a, bs, rfl, by rw [h2.bls] at h1; exact sq_of h1, q H2 e2⟩
theorem ed_listOf (h : EvD te σ H (.list ds)) : EvD (tCB (rLstOf K) (tCons te tNil)) σ H (.list ds) := fun H1 e Q q =>
  h H1 e _ fun v H2 e2 hd => by
    obtain ⟨a, xs, rfl, h1, _, h2⟩ := hd.lst_inv
    exact ⟨a, xs, rfl, .inl (sq_of h1), fun l hl => q _ _ (e2.trans (Ex.new hl)) (.lst upd_same (Nw.new e2 hl) (h2.ex (Ex.new hl)))⟩
theorem ed_listOfT (h : EvD te σ H (.tuple ds)) : EvD (tCB (rLstOf K) (tCons te tNil)) σ H (.list ds) := fun H1 e Q q =>
  h H1 e _ fun v H2 e2 hd => by
    obtain ⟨a, xs, rfl, h1, _, h2⟩ := hd.tup_inv
    exact ⟨a, xs, rfl, .inr (st_of h1), fun l hl => q _ _ (e2.trans (Ex.new hl)) (.lst upd_same (Nw.new e2 hl) (h2.ex (Ex.new hl)))⟩
theorem ed_tupleOf (h : EvD te σ H (.list ds)) : EvD (tCB (rTupOf K) (tCons te tNil)) σ H (.tuple ds) := fun H1 e Q q =>
  h H1 e _ fun v H2 e2 hd => by
    obtain ⟨a, xs, rfl, h1, _, h2⟩ := hd.lst_inv
    exact ⟨a, xs, rfl, .inl ⟨sq_of h1, fun l hl => q _ _ (e2.trans (Ex.new hl)) (.tup upd_same (Nw.new e2 hl) (h2.ex (Ex.new hl)))⟩⟩
theorem ed_tupleOfT (h : EvD te σ H (.tuple ds)) : EvD (tCB (rTupOf K) (tCons te tNil)) σ H (.tuple ds) := fun H1 e Q q =>
  h H1 e _ fun v H2 e2 hd => by
    obtain ⟨a, xs, rfl, h1, _, h2⟩ := hd.tup_inv
    exact ⟨a, xs, rfl, .inr ⟨st_of h1, q _ _ e2 hd⟩⟩
/-- an item of a tuple, a list -/
theorem ed_ixT {i : Int} {j : Nat} (h : EvD ta σ H (.tuple ds)) (hi : Ev tb σ H (.int i)) (hj : ixN ds.length i = some j) (hd : ds[j]? = some d) : EvD (tOp (rIxT K) ta tb) σ H d := fun H1 e Q q =>
  h H1 e _ fun v H2 e2 hv => hi H2 (e.trans e2) _ fun H3 e3 => by
    obtain ⟨a, xs, rfl, h1, _, h2⟩ := hv.tup_inv
    have hl := h2.length
    have hjx : j < xs.length := by rw [hl]; exact (List.getElem?_eq_some_iff.mp hd).1
    obtain ⟨d2, g1, g2⟩ := h2.get (i := j) (x := xs[j]) (by simp [hjx])
    rw [hd] at g1
    cases g1
    refine ⟨a, xs, i, xs[j], rfl, rfl, st_of (e3 _ _ h1), ?_, q _ _ (e2.trans e3) (g2.ex e3)⟩
    unfold atI
    rw [hl, hj]
    simp [hjx]
theorem ed_ixL {i : Int} {j : Nat} (h : EvD ta σ H (.list ds)) (hi : Ev tb σ H (.int i)) (hj : ixN ds.length i = some j) (hd : ds[j]? = some d) : EvD (tOp (rIxL K) ta tb) σ H d := fun H1 e Q q =>
  h H1 e _ fun v H2 e2 hv => hi H2 (e.trans e2) _ fun H3 e3 => by
    obtain ⟨a, xs, rfl, h1, _, h2⟩ := hv.lst_inv
    have hl := h2.length
    have hjx : j < xs.length := by rw [hl]; exact (List.getElem?_eq_some_iff.mp hd).1
    obtain ⟨d2, g1, g2⟩ := h2.get (i := j) (x := xs[j]) (by simp [hjx])
    rw [hd] at g1
    cases g1
    refine ⟨a, xs, i, xs[j], rfl, rfl, sq_of (e3 _ _ h1), ?_, q _ _ (e2.trans e3) (g2.ex e3)⟩
    unfold atI
    rw [hl, hj]
    simp [hjx]
/-- a slice -/
def cutD (ds : List PyData) (lo hi : Option Int) : List PyData := (ds.drop (HT.sIx ds.length 0 lo)).take (HT.sIx ds.length ds.length hi - HT.sIx ds.length 0 lo)
theorem ed_slT {tl th : TO} {lo hi : Option Int} (h : EvD te σ H (.tuple ds)) (h1 : EvO tl σ H lo) (h2 : EvO th σ H hi) (hn : ¬ (HT.sIx ds.length 0 lo = 0 ∧ HT.sIx ds.length ds.length hi = ds.length)) : EvD (tSl (rSlT K) te tl th) σ H (.tuple (cutD ds lo hi)) := fun H1 e _ q =>
  h H1 e _ fun v H2 e2 hv => h1 H2 (e.trans e2) _ fun H3 e3 => h2 H3 ((e.trans e2).trans e3) _ fun H4 e4 => by
    obtain ⟨a, xs, rfl, g1, _, g2⟩ := hv.tup_inv
    refine ⟨a, xs, rfl, st_of (e4 _ _ (e3 _ _ g1)), by rw [g2.length]; exact hn, fun p hp => q _ _ (((e2.trans e3).trans e4).trans (Ex.new hp)) (.tup upd_same (Nw.new ((e2.trans e3).trans e4) hp) ?_)⟩
    unfold cutV cutD
    rw [g2.length]
    exact (((g2.ex (e3.trans e4)).drop _).take _).ex (Ex.new hp)
theorem ed_slL {tl th : TO} {lo hi : Option Int} (h : EvD te σ H (.list ds)) (h1 : EvO tl σ H lo) (h2 : EvO th σ H hi) : EvD (tSl (rSlL K) te tl th) σ H (.list (cutD ds lo hi)) := fun H1 e _ q =>
  h H1 e _ fun v H2 e2 hv => h1 H2 (e.trans e2) _ fun H3 e3 => h2 H3 ((e.trans e2).trans e3) _ fun H4 e4 => by
    obtain ⟨a, xs, rfl, g1, _, g2⟩ := hv.lst_inv
    refine ⟨a, xs, rfl, sq_of (e4 _ _ (e3 _ _ g1)), fun p hp => q _ _ (((e2.trans e3).trans e4).trans (Ex.new hp)) (.lst upd_same (Nw.new ((e2.trans e3).trans e4) hp) ?_)⟩
    unfold cutV cutD
    rw [g2.length]
    exact (((g2.ex (e3.trans e4)).drop _).take _).ex (Ex.new hp)
theorem ev_isN (h : Ev te σ H v) : Ev (tIsN te) σ H (.bl (decide (v = .non))) := fun H1 e Q q => h H1 e _ fun H2 e2 => q H2 e2
theorem ev_notN (h : Ev te σ H v) : Ev (tNotN te) σ H (.bl (!decide (v = .non))) := fun H1 e Q q => h H1 e _ fun H2 e2 => q H2 e2
def isNonD : PyData → Bool
  | .none => true
  | _ => false
theorem Da.isNon (h : Da N H v d) : decide (v = .non) = isNonD d := by cases h <;> rfl
theorem ev_isND (h : EvD te σ H d) : Ev (tIsN te) σ H (.bl (isNonD d)) := fun H1 e Q q => h H1 e _ fun v H2 e2 hd => by
  show Q (.bl (decide (v = .non))) H2
  rw [hd.isNon]
  exact q H2 e2
theorem ev_notND (h : EvD te σ H d) : Ev (tNotN te) σ H (.bl (!isNonD d)) := fun H1 e Q q => h H1 e _ fun v H2 e2 hd => by
  show Q (.bl (!decide (v = .non))) H2
  rw [hd.isNon]
  exact q H2 e2
/-! ### statements -/
variable {D : Ends} {tz : TS}
theorem q_asgD {i : Nat} (h : EvD te σ H d) (k : ∀ v H1, Ex H H1 → Da N0 H1 v d → tz D (σ.set i (some v)) H1) : tSeq (tAsg te (gName i)) tz D σ H := h H (Ex.refl H) _ fun v H1 e hd => k v H1 e hd.zero
theorem s_retD (h : EvD te σ H d) (k : ∀ v H1, Ex H H1 → Da N0 H1 v d → D.rt v H1) : tRet te D σ H := h H (Ex.refl H) _ fun v H1 e hd => k v H1 e hd.zero
theorem q_dropD (h : EvD te σ H d) (k : ∀ H1, Ex H H1 → tz D σ H1) : tSeq (tDrop te) tz D σ H := h H (Ex.refl H) _ fun v H1 e hd => k H1 e
end
/-! ### comprehensions over any walk, the elements data -/
section
variable {K : PySem.W.Frag} {σ : L2.St} {H : Hp} {te : TE} {tt : TT} {g : TG} {vs : List Nat} {J : It} {n : Nat} {G : Hp → Prop} {Y : Nat → Hp → V → Hp → Prop}
def givenD (n : Nat) (f : Nat → Bool) (d : Nat → PyData) : List PyData := ((List.range n).filter f).map d
theorem givenD_yes {n : Nat} {f : Nat → Bool} {v : Nat → PyData} (h : f n = true) : givenD (n + 1) f v = givenD n f v ++ [v n] := by
  unfold givenD
  rw [List.range_succ, List.filter_append, List.map_append, List.filter_cons, if_pos h] <;> rfl
theorem givenD_no {n : Nat} {f : Nat → Bool} {v : Nat → PyData} (h : f n = false) : givenD (n + 1) f v = givenD n f v := by
  unfold givenD
  rw [List.range_succ, List.filter_append, List.map_append, List.filter_cons, if_neg (by rw [h]; decide)]
  show _ ++ [] = _
  rw [List.append_nil]
theorem givenD_len (n : Nat) (f : Nat → Bool) (v : Nat → PyData) : (givenD n f v).length ≤ n := by
  unfold givenD
  rw [List.length_map]
  have h := List.length_filter_le f (List.range n)
  rw [List.length_range] at h
  exact h
theorem givenD_all (n : Nat) (d : Nat → PyData) : givenD n (fun _ => true) d = (List.range n).map d := by
  unfold givenD
  rw [List.filter_eq_self.mpr fun _ _ => rfl]
theorem range_map_get {α : Type} : ∀ (l : List α) (f : α → PyData) (d : Nat → PyData), (∀ i x, l[i]? = some x → d i = f x) → (List.range l.length).map d = l.map f := by
  intro l f d h
  apply List.ext_getElem?
  intro i
  rw [List.getElem?_map, List.getElem?_map]
  by_cases hi : i < l.length
  · rw [List.getElem?_range hi, List.getElem?_eq_getElem hi]
    simp only [Option.map_some]
    rw [h i l[i] (List.getElem?_eq_getElem hi)]
  · rw [List.getElem?_eq_none (by simpa using hi), List.getElem?_eq_none (by simpa using hi)]
    rfl
theorem lc_ed (w : Walk J n G Y) (f : Nat → Bool) (d : Nat → PyData) (hn : n ≤ 40000) {H0 : Hp} (e0 : Ex H H0) (hG : ∀ H1, Ex H0 H1 → G H1)
    (hs : ∀ i x H1 H2, i < n → Ex H0 H1 → Y i H1 x H2 → ∀ Q : L2.St → Hp → Prop, (∀ σ2 H3, Ex H1 H3 → wipe σ2 vs = wipe σ vs → EvT tt σ2 H (f i) → (f i = true → EvD te σ2 H (d i)) → Q σ2 H3) → g x (wipe σ vs) H2 Q)
    {D : Addr} (hD : H0 D = none) {Qd : Hp → Prop} (k : ∀ H', Ex H0 H' → Da (Nw H H0) H' (.ref D) (.list (givenD n f d)) → Qd H') :
    ∃ W : Nat → Nat → Hp → Prop, (∃ m, W 0 m (upd H0 D (.lst []))) ∧ ∀ i m H, W i m H →
      (J.stop i H ∧ Qd H) ∨ (J.go i H ∧ ∃ Nx : Hp → Prop, (∀ H', Nx H' → ∃ m', m' < m ∧ W (i + 1) m' H') ∧ ∀ x H', J.yld i H x H' → g x (wipe σ vs) H' fun σ2 H2 => wipe σ2 vs = wipe σ vs ∧ tt σ2 H2 fun b H3 =>
        if b = true then te σ2 H3 fun y H4 => ∃ acc, H4 D = some (.lst acc) ∧ acc.length < sizeLine ∧ Nx (upd H4 D (.lst (acc ++ [y]))) else Nx H3) := by
  have hDH : H D = none := fresh_back e0 hD
  refine lc_it w (fun i H' => Ex H0 H' ∧ ∃ acc, H' D = some (.lst acc) ∧ DaAll (fun a => a = D ∨ Nw H H0 a) H' acc (givenD i f d)) ⟨Ex.new hD, [], upd_same, .nil⟩ (fun i H' _ p => hG H' p.1) ?_ ?_
  · rintro i x H1 H2 hi ⟨e1, acc, ha, hA⟩ y
    refine hs i x H1 H2 hi e1 y _ fun σ2 H3 e3 hw ht he => ⟨hw, ht H3 ((e0.trans e1).trans e3) _ fun H4 e4 => ?_⟩
    cases hf : f i with
    | true =>
      rw [if_pos rfl]
      refine he hf H4 (((e0.trans e1).trans e3).trans e4) _ fun v H5 e5 hv => ⟨acc, e5 _ _ (e4 _ _ (e3 _ _ ha)), by rw [hA.length]; exact sz_lt (by have := givenD_len i f d; omega), ?_⟩
      have e15 : Ex H1 H5 := (e3.trans e4).trans e5
      refine ⟨Ex.mut (e1.trans e15) hD, acc ++ [v], upd_same, ?_⟩
      have hv2 : Da (fun a => a = D ∨ Nw H H0 a) H5 v (d i) := hv.anti fun a z => by
        rcases z with z | z
        · subst z
          exact ⟨hDH, by rw [e4 _ _ (e3 _ _ ha)]; exact fun q => nomatch q⟩
        · exact Nw.sub ((e1.trans e3).trans e4) a z
      rw [givenD_yes hf]
      refine DaAll.to (N := fun a => a = D ∨ Nw H H0 a) (H := H5) (fun a o h n => ⟨?_, n⟩) ((hA.ex e15).append (.one hv2))
      rw [upd_ne fun z => n (.inl z)]
      exact h
    | false =>
      rw [if_neg (by decide)]
      refine ⟨(e1.trans e3).trans e4, acc, e4 _ _ (e3 _ _ ha), ?_⟩
      rw [givenD_no hf]
      exact (hA.ex e3).ex e4
  · rintro H' ⟨e, acc, ha, hA⟩
    exact k H' e (.lst ha (fun z => z.2 hD) (hA.anti fun a z => .inr z))
end
end Rel
namespace Rel
open PySem PySem.Spec PyProof.Rows L2 Evl
/-- an enumeration's turn: the two names -/
theorem g_pair {K : PySem.W.Frag} {i j : Nat} {T : Addr} {x y : V} {σ : L2.St} {H : Hp} {Q : L2.St → Hp → Prop} (hT : H T = some (.tup [x, y])) (q : Q ((σ.set i (some x)).set j (some y)) H) : gTup K 2 (gCons (gName i) (gCons (gName j) gNil)) (.ref T) σ H Q :=
  ⟨T, [x, y], rfl, st_of hT, rfl, x, [y], rfl, y, [], rfl, rfl, q⟩
end Rel
namespace Rel
open PySem PySem.Spec PyProof.Rows L2 Evl
theorem ite01 (c : Bool) : (0 : Int) ≤ (if c = true then 1 else 0) ∧ (if c = true then (1 : Int) else 0) ≤ 1 := by cases c <;> exact ⟨by decide, by decide⟩
theorem cutV_ints (ns : List Int) (lo hi : Option Int) : ∃ ms : List Int, cutV (ns.map V.int) lo hi = ms.map V.int ∧ ms.length ≤ ns.length := by
  refine ⟨(ns.drop (HT.sIx (ns.map V.int).length 0 lo)).take (HT.sIx (ns.map V.int).length (ns.map V.int).length hi - HT.sIx (ns.map V.int).length 0 lo), ?_, ?_⟩
  · unfold cutV
    rw [List.map_take, List.map_drop]
  · rw [List.length_take, List.length_drop]
    omega
theorem map_int_get {ms : List Int} {i : Nat} {x : V} (h : (ms.map V.int)[i]? = some x) : ∃ b, x = V.int b := by
  rw [List.getElem?_map] at h
  cases e : ms[i]? with
  | none => rw [e] at h; cases h
  | some z => rw [e] at h; exact ⟨z, (Option.some.inj h).symm⟩
end Rel
namespace Rel
open PySem PySem.Spec PyProof.Rows L2 Evl
theorem PI.or {X : Cx} {tg l : Expr} {w1 w2 : TI} (h1 : PI X tg l w1) (h2 : PI X tg l w2) : PI X tg l (fun σ H R => w1 σ H R ∨ w2 σ H R) :=
  ⟨fun pins s σ H R I h => h.elim (h1.run pins s σ H R I) (h2.run pins s σ H R I)⟩
def iSeq (K : PySem.W.Frag) (tl : TE) : TI := fun σ H R => iList K tl σ H R ∨ iTup K tl σ H R
theorem pi_seq {X : Cx} {tg l : Expr} {tl : TE} (hl : PE X l tl) : PI X tg l (iSeq X.K tl) := PI.or (pi_list hl) (pi_tup hl)
/-! ### a heap without others' new objects -/
open Classical in
noncomputable def virt (H H1 H2 : Hp) : Hp := fun a => if Nw H H1 a then none else H2 a
section
variable {H H1 H2 : Hp} {v : V} {d : PyData} {vs : List V} {ds : List PyData}
theorem virt_no {a : Addr} (h : Nw H H1 a) : virt H H1 H2 a = none := by unfold virt; rw [if_pos h]
theorem virt_yes {a : Addr} (h : ¬ Nw H H1 a) : virt H H1 H2 a = H2 a := by unfold virt; rw [if_neg h]
theorem virt_ex1 (e1 : Ex H H1) (e2 : Ex H1 H2) : Ex H (virt H H1 H2) := fun a o h => by
  rw [virt_yes fun z => by rw [z.1] at h; cases h]
  exact e2 _ _ (e1 _ _ h)
theorem virt_ex2 : Ex (virt H H1 H2) H2 := fun a o h => by
  by_cases n : Nw H H1 a
  · rw [virt_no n] at h; cases h
  · rw [virt_yes n] at h; exact h
theorem virt_da (h : Da (Nw H H1) H2 v d) : Da N0 (virt H H1 H2) v d := h.to fun a o q n => ⟨by rw [virt_yes n]; exact q, fun z => z⟩
theorem virt_das (h : DaAll (Nw H H1) H2 vs ds) : DaAll N0 (virt H H1 H2) vs ds := h.to fun a o q n => ⟨by rw [virt_yes n]; exact q, fun z => z⟩
theorem virt_nw (e2 : Ex H1 H2) : ∀ a, Nw H H1 a → Nw (virt H H1 H2) H2 a := fun a h => ⟨virt_no h, fun z => h.2 (fresh_back e2 z)⟩
end
section
variable {K : PySem.W.Frag} {σ : L2.St} {H : Hp} {tl te : TE} {tt : TT} {vs : List Nat} {ds es : List PyData}
/-- [e for x in a tuple if t] -/
theorem ed_lcT {j : Nat} (h : EvD tl σ H (.tuple ds)) (hz : ds.length ≤ 40000) (hw : ∀ x, wipe ((wipe σ vs).set j (some x)) vs = wipe σ vs) (f : Nat → Bool) (d : Nat → PyData)
    (ht : ∀ (i : Nat) (x : V) (dx : PyData) (Hb : Hp), Ex H Hb → Da N0 Hb x dx → ds[i]? = some dx → EvT tt ((wipe σ vs).set j (some x)) Hb (f i))
    (he : ∀ (i : Nat) (x : V) (dx : PyData) (Hb : Hp), Ex H Hb → Da N0 Hb x dx → ds[i]? = some dx → f i = true → EvD te ((wipe σ vs).set j (some x)) Hb (d i)) : EvD (tLc (iTup K tl) (gName j) tt te vs) σ H (.list (givenD ds.length f d)) := fun H1 e Q q =>
  h H1 e _ fun v H2 e2 hd => by
    obtain ⟨a, xs, rfl, h1, n1, h2⟩ := hd.tup_inv
    refine ⟨a, rfl, ⟨xs, st_of h1⟩, fun D hD => ?_⟩
    have hl := h2.length
    rw [← hl] at hz q
    refine lc_ed (H := virt H H1 H2) (walk_tup (xs := xs)) f d hz virt_ex2 (fun H3 e3 => st_of (e3 _ _ h1)) ?_ hD (fun H' e' hd' => q _ _ (e2.trans e') (hd'.anti (virt_nw e2)))
    rintro i x H3 H4 hi e3 ⟨rfl, hx⟩ R hR
    obtain ⟨dx, hdx, hda⟩ := (virt_das h2).get hx
    exact hR _ _ (Ex.refl _) (hw x) (ht i x dx _ (virt_ex1 e e2) hda hdx) (he i x dx _ (virt_ex1 e e2) hda hdx)
theorem ed_lcL {j : Nat} (h : EvD tl σ H (.list ds)) (hz : ds.length ≤ 40000) (hw : ∀ x, wipe ((wipe σ vs).set j (some x)) vs = wipe σ vs) (f : Nat → Bool) (d : Nat → PyData)
    (ht : ∀ (i : Nat) (x : V) (dx : PyData) (Hb : Hp), Ex H Hb → Da N0 Hb x dx → ds[i]? = some dx → EvT tt ((wipe σ vs).set j (some x)) Hb (f i))
    (he : ∀ (i : Nat) (x : V) (dx : PyData) (Hb : Hp), Ex H Hb → Da N0 Hb x dx → ds[i]? = some dx → f i = true → EvD te ((wipe σ vs).set j (some x)) Hb (d i)) : EvD (tLc (iList K tl) (gName j) tt te vs) σ H (.list (givenD ds.length f d)) := fun H1 e Q q =>
  h H1 e _ fun v H2 e2 hd => by
    obtain ⟨a, xs, rfl, h1, n1, h2⟩ := hd.lst_inv
    refine ⟨a, rfl, ⟨xs, sq_of h1⟩, fun D hD => ?_⟩
    have hl := h2.length
    rw [← hl] at hz q
    refine lc_ed (H := virt H H1 H2) (walk_list (xs := xs)) f d hz virt_ex2 (fun H3 e3 => sq_of (e3 _ _ h1)) ?_ hD (fun H' e' hd' => q _ _ (e2.trans e') (hd'.anti (virt_nw e2)))
    rintro i x H3 H4 hi e3 ⟨rfl, hx⟩ R hR
    obtain ⟨dx, hdx, hda⟩ := (virt_das h2).get hx
    exact hR _ _ (Ex.refl _) (hw x) (ht i x dx _ (virt_ex1 e e2) hda hdx) (he i x dx _ (virt_ex1 e e2) hda hdx)
/-- over a range -/
theorem ed_lcR {ta : TA} {j : Nat} {n : Int} (h : EvA ta σ H [.int n]) (hn : 0 ≤ n ∧ n ≤ 40000) (hw : ∀ x, wipe ((wipe σ vs).set j (some x)) vs = wipe σ vs) (f : Nat → Bool) (d : Nat → PyData)
    (ht : ∀ (i : Nat), (i : Int) < n → EvT tt ((wipe σ vs).set j (some (.int (i : Nat)))) H (f i))
    (he : ∀ (i : Nat), (i : Int) < n → f i = true → EvD te ((wipe σ vs).set j (some (.int (i : Nat)))) H (d i)) : EvD (tLc (iRng1 ta) (gName j) tt te vs) σ H (.list (givenD n.toNat f d)) := fun H1 e Q q =>
  h H1 e _ fun H2 e2 => by
    refine ⟨n, rfl, by omega, by omega, fun D hD => ?_⟩
    refine lc_ed (H := H) (walk_range (lo := 0) (n := n.toNat)) f d (by omega) (e.trans e2) (fun _ _ => trivial) ?_ hD (fun H' e' hd' => q _ _ (e2.trans e') (hd'.anti (Nw.sub e2)))
    rintro i x H3 H4 hi e3 ⟨rfl, rfl⟩ R hR
    have e0 : (0 : Int) + (i : Nat) = (i : Nat) := Int.zero_add _
    show R ((wipe σ vs).set j (some (.int ((0 : Int) + (i : Nat))))) H4
    rw [e0]
    exact hR _ _ (Ex.refl _) (hw _) (ht i (by omega)) (he i (by omega))
end
theorem ItzT_walk {K : PySem.W.Frag} {a b : Addr} {xs ys : List V} {n : Nat} (hn : n = min xs.length ys.length) : Walk (RZ.ItzT K a b) n (fun H => SqT K H a xs ∧ SqT K H b ys) (YPair (fun i => xs[i]?) (fun i => ys[i]?)) := by
  subst hn
  refine ⟨fun i _ hi q => ?_, fun _ q => ⟨xs, ys, q.1, q.2, by omega⟩, fun i H v H' _ q y => ?_⟩
  · have h1 : i < xs.length := by omega
    have h2 : i < ys.length := by omega
    exact ⟨xs, ys, xs[i], ys[i], q.1, q.2, by simp [h1], by simp [h2]⟩
  · obtain ⟨T, x, z, h1, h2, h3, h4, h5⟩ := y
    exact ⟨T, x, z, h1, h2, h3, h4 xs q.1, h5 ys q.2⟩
section
variable {K : PySem.W.Frag} {σ : L2.St} {H : Hp} {ta tb te : TE} {tt : TT} {vs : List Nat} {ds es : List PyData}
/-- [e for x, y in zip(..)], of two lists | tuples of one length -/
theorem ed_lcZL {i j : Nat} (h : EvDA (tCons ta (tCons tb tNil)) σ H [.list ds, .list es]) (hde : ds.length = es.length) (hz : ds.length ≤ 40000) (hw : ∀ x y, wipe (((wipe σ vs).set i (some x)).set j (some y)) vs = wipe σ vs) (f : Nat → Bool) (d : Nat → PyData)
    (ht : ∀ (n : Nat) (x y : V) (dx dy : PyData) (Hb : Hp), Ex H Hb → Da N0 Hb x dx → Da N0 Hb y dy → ds[n]? = some dx → es[n]? = some dy → EvT tt (((wipe σ vs).set i (some x)).set j (some y)) Hb (f n))
    (he : ∀ (n : Nat) (x y : V) (dx dy : PyData) (Hb : Hp), Ex H Hb → Da N0 Hb x dx → Da N0 Hb y dy → ds[n]? = some dx → es[n]? = some dy → f n = true → EvD te (((wipe σ vs).set i (some x)).set j (some y)) Hb (d n)) :
    EvD (tLc (RZ.iZipA K (tCons ta (tCons tb tNil))) (gTup K 2 (gCons (gName i) (gCons (gName j) gNil))) tt te vs) σ H (.list (givenD ds.length f d)) := fun H1 e Q q => by
    delta tLc RZ.iZipA
    refine h H1 e _ fun us H2 e2 hd => ?_
    cases hd with
    | cons ha hr =>
      cases hr with
      | cons hb hn =>
        cases hn
        obtain ⟨a, xs, rfl, h1, n1, h2⟩ := ha.lst_inv
        obtain ⟨b, ys, rfl, h3, n3, h4⟩ := hb.lst_inv
        refine ⟨a, b, xs, ys, rfl, .inl ⟨sq_of h1, sq_of h3, fun D hD => ?_⟩⟩
        have hl := h2.length
        have hl2 := h4.length
        rw [← hl] at hz q
        refine lc_ed (H := virt H H1 H2) (walk_zip (xs := xs) (ys := ys) (n := xs.length) (by omega)) f d hz virt_ex2 (fun H3 e3 => ⟨sq_of (e3 _ _ h1), sq_of (e3 _ _ h3)⟩) ?_ hD (fun H' e' hd' => q _ _ (e2.trans e') (hd'.anti (virt_nw e2)))
        rintro n v H3 H4 hi e3 ⟨T, x, y, rfl, hT, rfl, hx, hy⟩ R hR
        obtain ⟨dx, hdx, hda⟩ := (virt_das h2).get hx
        obtain ⟨dy, hdy, hdb⟩ := (virt_das h4).get hy
        refine g_pair upd_same ?_
        exact hR _ _ (Ex.new hT) (hw x y) (ht n x y dx dy _ (virt_ex1 e e2) hda hdb hdx hdy) (he n x y dx dy _ (virt_ex1 e e2) hda hdb hdx hdy)
theorem ed_lcZT {i j : Nat} (h : EvDA (tCons ta (tCons tb tNil)) σ H [.tuple ds, .tuple es]) (hde : ds.length = es.length) (hz : ds.length ≤ 40000) (hw : ∀ x y, wipe (((wipe σ vs).set i (some x)).set j (some y)) vs = wipe σ vs) (f : Nat → Bool) (d : Nat → PyData)
    (ht : ∀ (n : Nat) (x y : V) (dx dy : PyData) (Hb : Hp), Ex H Hb → Da N0 Hb x dx → Da N0 Hb y dy → ds[n]? = some dx → es[n]? = some dy → EvT tt (((wipe σ vs).set i (some x)).set j (some y)) Hb (f n))
    (he : ∀ (n : Nat) (x y : V) (dx dy : PyData) (Hb : Hp), Ex H Hb → Da N0 Hb x dx → Da N0 Hb y dy → ds[n]? = some dx → es[n]? = some dy → f n = true → EvD te (((wipe σ vs).set i (some x)).set j (some y)) Hb (d n)) :
    EvD (tLc (RZ.iZipA K (tCons ta (tCons tb tNil))) (gTup K 2 (gCons (gName i) (gCons (gName j) gNil))) tt te vs) σ H (.list (givenD ds.length f d)) := fun H1 e Q q => by
    delta tLc RZ.iZipA
    refine h H1 e _ fun us H2 e2 hd => ?_
    cases hd with
    | cons ha hr =>
      cases hr with
      | cons hb hn =>
        cases hn
        obtain ⟨a, xs, rfl, h1, n1, h2⟩ := ha.tup_inv
        obtain ⟨b, ys, rfl, h3, n3, h4⟩ := hb.tup_inv
        refine ⟨a, b, xs, ys, rfl, .inr ⟨st_of h1, st_of h3, fun D hD => ?_⟩⟩
        have hl := h2.length
        have hl2 := h4.length
        rw [← hl] at hz q
        refine lc_ed (H := virt H H1 H2) (ItzT_walk (xs := xs) (ys := ys) (n := xs.length) (by omega)) f d hz virt_ex2 (fun H3 e3 => ⟨st_of (e3 _ _ h1), st_of (e3 _ _ h3)⟩) ?_ hD (fun H' e' hd' => q _ _ (e2.trans e') (hd'.anti (virt_nw e2)))
        rintro n v H3 H4 hi e3 ⟨T, x, y, rfl, hT, rfl, hx, hy⟩ R hR
        obtain ⟨dx, hdx, hda⟩ := (virt_das h2).get hx
        obtain ⟨dy, hdy, hdb⟩ := (virt_das h4).get hy
        refine g_pair upd_same ?_
        exact hR _ _ (Ex.new hT) (hw x y) (ht n x y dx dy _ (virt_ex1 e e2) hda hdb hdx hdy) (he n x y dx dy _ (virt_ex1 e e2) hda hdb hdx hdy)
end
end Rel
namespace Rel
open PySem PySem.Spec PyProof.Rows L2 Evl
def isiB (a b : String) : Bool := a == b || (a == "bool" && b == "int")
abbrev ty6 : List String := ["NoneType", "bool", "int", "str", "list", "tuple"]
abbrev ty5 : List String := ["int", "bool", "str", "list", "tuple"]
theorem kb_all : ∀ a ∈ ty6, ∀ b ∈ ty5, kitB a b = some (isiB a b) := by decide +kernel
theorem Da.ty6 {N : Addr → Prop} {H : Hp} {v : V} {d : PyData} (h : Da N H v d) : tyN d ∈ ty6 := by
  cases h <;> simp [tyN]
section
variable {K : PySem.W.Frag} {σ : L2.St} {H : Hp} {te : TE} {d : PyData}
theorem ev_is1 {T : String} (h : EvD te σ H d) (hT : T ∈ ty5 := by simp) : Ev (tCB (rIsi K) (tCons te (tCons (tC (.ty T)) tNil))) σ H (.bl (isiB (tyN d) T)) := fun H1 e Q q =>
  h H1 e _ fun v H2 e2 hd => ⟨v, .ty T, .type (tyN d), .type T, _, rfl, .ty T, hd.ty, kit_ty (kb_all _ hd.ty6 _ hT), q H2 e2⟩
theorem ev_is2 {T U : String} (h : EvD te σ H d) (hT : T ∈ ty5 := by simp) (hU : U ∈ ty5 := by simp) :
    Ev (tCB (rIsiT K) (tCons te (tCons (tTup (tCons (tC (.ty T)) (tCons (tC (.ty U)) tNil))) tNil))) σ H (.bl (isiB (tyN d) T || isiB (tyN d) U)) := fun H1 e Q q =>
  h H1 e _ fun v H2 e2 hd => ⟨by show 2 ≤ sizeLine; decide, fun p hp => ⟨v, p, [.ty T, .ty U], .type (tyN d), [.type T, .type U], _, rfl, upd_same, .cons (.ty T) (.cons (.ty U) .nil), (hd.ex (Ex.new hp)).ty, by
    refine kitAny_cons (kit_ty (kb_all _ hd.ty6 _ hT)) (fun z => ?_) (fun z => by rw [z]; rfl)
    rw [z, Bool.false_or]
    exact kitAny_cons (kit_ty (kb_all _ hd.ty6 _ hU)) (fun z => by rw [z]; exact kitAny_nil) (fun z => z), q _ (e2.trans (Ex.new hp))⟩⟩
end
def isIntD : PyData → Bool
  | .int _ => true
  | _ => false
def isStrD : PyData → Bool
  | .str _ => true
  | _ => false
theorem isInt_eq (d : PyData) (h : tyN d ∈ ty6) : (isiB (tyN d) "int" && !isiB (tyN d) "bool") = isIntD d := by
  cases d <;> first | rfl | (simp [tyN] at h)
/-- all lists told as tuples -/
def tupD : PyData → PyData
  | .list xs => .tuple (tupDs xs)
  | .tuple xs => .tuple (tupDs xs)
  | d => d
where tupDs : List PyData → List PyData
  | [] => []
  | d :: ds => tupD d :: tupDs ds
theorem tupDs_eq (ds : List PyData) : tupD.tupDs ds = ds.map tupD := by
  induction ds with
  | nil => rfl
  | cons d ds ih => rw [tupD.tupDs, ih]; rfl
theorem depth_mem {ds : List PyData} {d : PyData} {i : Nat} (h : ds[i]? = some d) : d.depth ≤ PyData.depthAll ds := by
  induction ds generalizing i with
  | nil => simp at h
  | cons a ds ih =>
    cases i with
    | zero =>
      have e : a = d := by simpa using h
      subst e
      simp only [PyData.depthAll]
      omega
    | succ i =>
      have := ih (i := i) (by simpa using h)
      simp only [PyData.depthAll]
      omega
end Rel
namespace Rel
open PySem PySem.Spec PyProof.Rows L2 Evl
/-- of depth below n, no list too long -/
def okD : Nat → PyData → Prop
  | 0, _ => False
  | n + 1, .list ds => ds.length ≤ 30000 ∧ ∀ d ∈ ds, okD n d
  | n + 1, .tuple ds => ds.length ≤ 30000 ∧ ∀ d ∈ ds, okD n d
  | _ + 1, .dict _ => False
  | _ + 1, .none => True
  | _ + 1, .bool _ => True
  | _ + 1, .int _ => True
  | _ + 1, .str _ => True
theorem okD_mono {n m : Nat} (h : n ≤ m) : ∀ {d : PyData}, okD n d → okD m d := by
  induction n generalizing m with
  | zero => intro d h; exact h.elim
  | succ n ih =>
    obtain ⟨k, rfl⟩ : ∃ k, m = k + 1 := ⟨m - 1, by omega⟩
    intro d hd
    cases d with
    | list ds => exact ⟨hd.1, fun d hm => ih (by omega) (hd.2 d hm)⟩
    | tuple ds => exact ⟨hd.1, fun d hm => ih (by omega) (hd.2 d hm)⟩
    | dict ds => exact hd
    | none => trivial
    | bool _ => trivial
    | int _ => trivial
    | str _ => trivial
end Rel
namespace Rel
open PySem PySem.Spec PyProof.Rows L2 Evl
open Classical in
/-- a heap without some addresses -/
noncomputable def less (N : Addr → Prop) (H : Hp) : Hp := fun a => if N a then none else H a
section
variable {N : Addr → Prop} {H H' : Hp} {v : V} {d : PyData} {te tl : TE} {σ : L2.St} {D : Ends} {tt : TT} {g : TG} {vs : List Nat} {K : PySem.W.Frag}
theorem less_no {a : Addr} (h : N a) : less N H a = none := by unfold less; rw [if_pos h]
theorem less_yes {a : Addr} (h : ¬ N a) : less N H a = H a := by unfold less; rw [if_neg h]
theorem less_ex : Ex (less N H) H := fun a o h => by
  by_cases n : N a
  · rw [less_no n] at h; cases h
  · rw [less_yes n] at h; exact h
theorem less_da (h : Da N H v d) : Da N0 (less N H) v d := h.to fun a o q n => ⟨by rw [less_yes n]; exact q, fun z => z⟩
theorem less_nw (hN : ∀ a, N a → H a ≠ none) : ∀ a, N a → Nw (less N H) H a := fun a h => ⟨less_no h, hN a h⟩
/-- return e, the answer at none of N -/
theorem s_retDV (h : EvD te σ (less N H) d) (hN : ∀ a, N a → H a ≠ none) (k : ∀ v H1, Ex H H1 → Da N H1 v d → D.rt v H1) : tRet te D σ H := h H less_ex _ fun v H1 e hd => k v H1 e (hd.anti (less_nw hN))
theorem ed_seqL (h : EvD (tLc (iList K tl) g tt te vs) σ H d) : EvD (tLc (iSeq K tl) g tt te vs) σ H d := fun H1 e Q q => .inl (h H1 e Q q)
theorem ed_seqT (h : EvD (tLc (iTup K tl) g tt te vs) σ H d) : EvD (tLc (iSeq K tl) g tt te vs) σ H d := fun H1 e Q q => .inr (h H1 e Q q)
theorem et_yes : EvT tYes σ H true := fun H1 _ Q q => q H1 (Ex.refl H1)
theorem givenD_map {ds : List PyData} {f : PyData → PyData} : givenD ds.length (fun _ => true) (fun i => f (ds.getD i .none)) = ds.map f := by
  rw [givenD_all]
  refine range_map_get ds f _ fun i x h => ?_
  rw [List.getD_eq_getElem?_getD, h]
  rfl
end
end Rel
namespace Rel
open PySem PySem.Spec PyProof.Rows L2 Evl
/-! ### the rules with the written part told -/
section
variable {X : Cx} {K : PySem.W.Frag} {e : Expr} {f : Str} {pos : Pos} {ta tl : TE}
theorem kc_isi (hK : X.K = K) : CallR X (.builtin "isinstance") (rIsi K) := by subst hK; exact call_isi
theorem kc_isiT (hK : X.K = K) : CallR X (.builtin "isinstance") (rIsiT K) := by subst hK; exact call_isiT
theorem kc_len (hK : X.K = K) : CallR X (.builtin "len") (rLenU K) := by subst hK; exact call_len
theorem kc_list (hK : X.K = K) : CallR X (.type "list") (rLstOf K) := by subst hK; exact call_list_of
theorem kc_tuple (hK : X.K = K) : CallR X (.type "tuple") (rTupOf K) := by subst hK; exact call_tuple_of
theorem kc_all (hK : X.K = K) (hc : X.calm = true) : CallR X (.builtin "all") (rAll K) := by subst hK; exact cr_all hc
theorem kc_any (hK : X.K = K) (hc : X.calm = true) : CallR X (.builtin "any") (rAny K) := by subst hK; exact cr_any hc
theorem kx_list (hK : X.K = K) : IxR X (rIxL K) := by subst hK; exact ix_list
theorem kx_tup (hK : X.K = K) : IxR X (rIxT K) := by subst hK; exact ix_tup
theorem kx_seq (hK : X.K = K) : IxR X (rIx K) := by subst hK; exact ix_seq
theorem ks_list (hK : X.K = K) : SlR X (rSlL K) := by subst hK; exact sl_list
theorem ks_tup (hK : X.K = K) : SlR X (rSlT K) := by subst hK; exact sl_tup
theorem ks_seq (hK : X.K = K) : SlR X (fun x lo hi H Q => rSlL K x lo hi H Q ∨ rSlT K x lo hi H Q) := by subst hK; exact sl_list.or sl_tup
theorem ko_eqD (hK : X.K = K) (hu : X.A.units + 64 < cLine) : OpR X (compareOp .Eq) (rEqD K) := by subst hK; exact op_eqD hu
theorem ko_neD (hK : X.K = K) (hu : X.A.units + 64 < cLine) : OpR X (compareOp .NotEq) (rNeD K) := by subst hK; exact op_neD hu
theorem ko_inD (hK : X.K = K) (hu : X.A.units + 65 < cLine) : OpR X (compareOp .In) (rInD K) := by subst hK; exact op_inD hu
theorem ko_notInD (hK : X.K = K) (hu : X.A.units + 65 < cLine) : OpR X (compareOp .NotIn) (rNotInD K) := by subst hK; exact op_notInD hu
theorem ko_catT (hK : X.K = K) : OpR X (binaryOp .Add) (rCatT K) := by subst hK; exact op_catT
theorem pe_fldK (hK : X.K = K) (ha : PE X e ta) (hb : attributeBase e f X.env (eval e X.env) = eval e X.env) : PE X (.Attribute e f pos) (tFld K ta f) := by subst hK; exact pe_fld ha hb
end
theorem hu65_of {A : Around} {k : Nat} (hr : Room k A) : A.units + 65 < cLine := by have := hr.un; omega
end Rel
namespace Rel
open PySem PySem.Spec PyProof.Rows L2 Evl
/-- a value that is data, by a function of the data -/
def spFun (f : PyData → PyData) (C : PyData → Prop) : Sp := fun vs H Q _ => ∃ (N : Addr → Prop) (v : V) (d : PyData), vs = [v] ∧ (∀ a, N a → H a ≠ none) ∧ Da N H v d ∧ C d ∧ ∀ v' H', Ex H H' → Da N H' v' (f d) → Q v' H'
theorem spFun_D {f : PyData → PyData} {C : PyData → Prop} {d : PyData} (hc : C d) : SpD (spFun f C) [d] (f d) := by
  intro N vs H hN hd Q E q
  cases hd with
  | cons h1 h2 =>
    cases h2
    exact ⟨N, _, d, rfl, hN, h1, hc, q⟩
end Rel
end
section
namespace Rel
open PySem PySem.Spec PyProof.Rows L2 Evl
/-! ### o.f as a target -/
def gFld (K : PySem.W.Frag) (ta : TE) (f : Str) : TG := fun v σ H Q => ta σ H fun x H1 => ∃ a C dx fs, x = .ref a ∧ H1 a = some (.ins C dx fs) ∧ Cls K C ∧ NoAttr K C f ∧ fs.length < 1000 ∧ Q σ (upd H1 a (.ins C dx (putF f v fs)))
theorem pg_fld {X : Cx} {o : Expr} {f : Str} {pos : Pos} {ta : TE} (ha : PE X o ta) : PG X (.Attribute o f pos) (gFld X.K ta f) := by
  refine ⟨fun pins s σ H v u Q I r h => ?_⟩
  rw [assign_Attribute]
  refine wpAny_bind (wpAny_holding (thn (ha.run pins s σ H _ I h) fun ov s1 ⟨x, H1, I1, rx, a, C, dx, fs, ex, ea, c, n, l, q⟩ => ?_))
  subst ex
  obtain rfl : ov = Value.ref a := rx
  refine wpAny_bind (wpAny_standAt (wpAny_bind (wpAny_holding (setattr_ok I1 ea c n l r fun s3 I3 => ?_))))
  exact wpAny_release ⟨σ, _, I3, q⟩
section
variable {K : PySem.W.Frag} {σ : L2.St} {H : Hp} {te : TE} {p C dx : Addr} {fs : List (Str × V)} {f : Str} {v : V} {d : PyData}
theorem ev_fld (h : Ev te σ H (.ref p)) (ho : H p = some (.ins C dx fs)) (hc : Cls K C) (hn : NoAttr K C f) (hl : fs.lookup f = some v) : Ev (tFld K te f) σ H v := fun H1 e Q q =>
  h H1 e _ fun H2 e2 => ⟨p, C, dx, fs, v, rfl, e2 _ _ (e _ _ ho), hc, hn, hl, q H2 e2⟩
end
/-! ### a host between two calls -/
structure HostS where
  num : Int
  phase : Str
  hop : Int
  tri : Int
  text : Option Str
  goal : Option Int
  pieces : List Str
  taken : List (Int × Str)
  frm : Option Int
  many : Int
  came : Option (Int × Int × Int)
def oS : Option Str → V
  | none => .non
  | some z => .str z
def oI : Option Int → V
  | none => .non
  | some z => .int z
def oSD : Option Str → PyData
  | none => .none
  | some z => .str z
def oID : Option Int → PyData
  | none => .none
  | some z => .int z
theorem oS_da {N : Addr → Prop} {H : Hp} (z : Option Str) : Da N H (oS z) (oSD z) := by cases z; exact .non; exact .str _
theorem oI_da {N : Addr → Prop} {H : Hp} (z : Option Int) : Da N H (oI z) (oID z) := by cases z; exact .non; exact .int _
def cameD : Option (Int × Int × Int) → PyData
  | none => .none
  | some (a, b, c) => .tuple [.int a, .tuple [.str "going", .int b, .int c]]
def flds (td pl : Addr) (cm : V) (s : HostS) : List (Str × V) := [("own_number", .int s.num), ("own_phase", .str s.phase), ("own_hop", .int s.hop), ("own_try", .int s.tri), ("own_text", oS s.text), ("own_goal", oI s.goal), ("own_pieces", .ref pl), ("own_taken", .ref td), ("own_from", oI s.frm), ("own_many", .int s.many), ("own_came", cm)]
section
variable {td pl : Addr} {cm : V} {s : HostS}
theorem fl_number : (flds td pl cm s).lookup ("own_number" : Str) = some (V.int s.num) := by kernel_rfl
theorem fl_phase : (flds td pl cm s).lookup ("own_phase" : Str) = some (V.str s.phase) := by kernel_rfl
theorem fl_hop : (flds td pl cm s).lookup ("own_hop" : Str) = some (V.int s.hop) := by kernel_rfl
theorem fl_try : (flds td pl cm s).lookup ("own_try" : Str) = some (V.int s.tri) := by kernel_rfl
theorem fl_text : (flds td pl cm s).lookup ("own_text" : Str) = some (oS s.text) := by kernel_rfl
theorem fl_goal : (flds td pl cm s).lookup ("own_goal" : Str) = some (oI s.goal) := by kernel_rfl
theorem fl_pieces : (flds td pl cm s).lookup ("own_pieces" : Str) = some (V.ref pl) := by kernel_rfl
theorem fl_taken : (flds td pl cm s).lookup ("own_taken" : Str) = some (V.ref td) := by kernel_rfl
theorem fl_from : (flds td pl cm s).lookup ("own_from" : Str) = some (oI s.frm) := by kernel_rfl
theorem fl_many : (flds td pl cm s).lookup ("own_many" : Str) = some (V.int s.many) := by kernel_rfl
theorem fl_came : (flds td pl cm s).lookup ("own_came" : Str) = some (cm) := by kernel_rfl
theorem pu_number (z : Int) : putF "own_number" (V.int z) (flds td pl cm s) = flds td pl cm { s with num := z } := by kernel_rfl
theorem pu_phase (z : Str) : putF "own_phase" (V.str z) (flds td pl cm s) = flds td pl cm { s with phase := z } := by kernel_rfl
theorem pu_hop (z : Int) : putF "own_hop" (V.int z) (flds td pl cm s) = flds td pl cm { s with hop := z } := by kernel_rfl
theorem pu_try (z : Int) : putF "own_try" (V.int z) (flds td pl cm s) = flds td pl cm { s with tri := z } := by kernel_rfl
theorem pu_text (z : Option Str) : putF "own_text" (oS z) (flds td pl cm s) = flds td pl cm { s with text := z } := by kernel_rfl
theorem pu_goal (z : Option Int) : putF "own_goal" (oI z) (flds td pl cm s) = flds td pl cm { s with goal := z } := by kernel_rfl
theorem pu_from (z : Option Int) : putF "own_from" (oI z) (flds td pl cm s) = flds td pl cm { s with frm := z } := by kernel_rfl
theorem pu_many (z : Int) : putF "own_many" (V.int z) (flds td pl cm s) = flds td pl cm { s with many := z } := by kernel_rfl
theorem pu_pieces (q : Addr) : putF "own_pieces" (.ref q) (flds td pl cm s) = flds td q cm s := by kernel_rfl
theorem pu_taken (q : Addr) : putF "own_taken" (.ref q) (flds td pl cm s) = flds q pl cm s := by kernel_rfl
theorem pu_came (q : V) : putF "own_came" q (flds td pl cm s) = flds td pl q s := by kernel_rfl
theorem fl_len : (flds td pl cm s).length < 1000 := by show 11 < 1000; decide
theorem fl_no {m : Str} (h : m ∈ (["number", "phase", "hop", "running", "begin", "freeze", "resume", "receive", "take_answer", "leave", "take_piece", "is_whole", "take_go", "messages"] : List Str)) : (flds td pl cm s).lookup m = none := by
  have e : ∀ m ∈ (["number", "phase", "hop", "running", "begin", "freeze", "resume", "receive", "take_answer", "leave", "take_piece", "is_whole", "take_go", "messages"] : List Str), ∀ q ∈ (["own_number", "own_phase", "own_hop", "own_try", "own_text", "own_goal", "own_pieces", "own_taken", "own_from", "own_many", "own_came"] : List Str), (m == q) = false := by decide +kernel
  have g := e m h
  unfold flds
  simp only [List.lookup_cons]
  rw [g _ (by simp), g _ (by simp), g _ (by simp), g _ (by simp), g _ (by simp), g _ (by simp), g _ (by simp), g _ (by simp), g _ (by simp), g _ (by simp), g _ (by simp)]
  rfl
end
def keyT (q : Int × Str) : Key × V := (Sum.inl q.1, .str q.2)
structure HostAt (C : Addr) (H : Hp) (p td pl : Addr) (s : HostS) : Prop where
  at_ : ∃ dx cm, H p = some (.ins C dx (flds td pl cm s)) ∧ Da N0 H cm (cameD s.came)
  tk : H td = some (.dK (s.taken.map keyT))
  pc : H pl = some (.lst (s.pieces.map V.str))
/-- all but the host's own two objects stands -/
def Frm (p td : Addr) (H H' : Hp) : Prop := ∀ b o, b ≠ p → b ≠ td → H b = some o → H' b = some o
end Rel
namespace Rel
open PySem PySem.Spec PyProof.Rows L2 Evl
/-- a list or a tuple -/
def SeqO : HO → Prop
  | .lst _ => True
  | .tup _ => True
  | _ => False
mutual
theorem Da.toS {N N' : Addr → Prop} {H H' : Hp} (e : ∀ a o, SeqO o → H a = some o → ¬ N a → H' a = some o ∧ ¬ N' a) : ∀ {v : V} {d : PyData}, Da N H v d → Da N' H' v d
  | _, _, .non => .non
  | _, _, .bl b => .bl b
  | _, _, .int i => .int i
  | _, _, .str x => .str x
  | _, _, .lst h n hs => .lst (e _ (.lst _) trivial h n).1 (e _ (.lst _) trivial h n).2 (DaAll.toS e hs)
  | _, _, .tup h n hs => .tup (e _ (.tup _) trivial h n).1 (e _ (.tup _) trivial h n).2 (DaAll.toS e hs)
theorem DaAll.toS {N N' : Addr → Prop} {H H' : Hp} (e : ∀ a o, SeqO o → H a = some o → ¬ N a → H' a = some o ∧ ¬ N' a) : ∀ {vs : List V} {ds : List PyData}, DaAll N H vs ds → DaAll N' H' vs ds
  | _, _, .nil => .nil
  | _, _, .cons h hs => .cons (Da.toS e h) (DaAll.toS e hs)
end
/-- data where an object that is no list or tuple may have changed -/
theorem Da.but {N : Addr → Prop} {p : Addr} {H H' : Hp} {u : HO} {v : V} {d : PyData} (h : Da N H v d) (b : But p H H') (hp : H p = some u) (hu : ¬ SeqO u) : Da N H' v d :=
  h.toS fun a o so q n => ⟨b a o (fun z => by subst z; rw [hp] at q; cases q; exact hu so) q, n⟩
theorem But.at {p : Addr} {H H' : Hp} {u : HO} (b : But p H H') (hp : H p = some u) {a : Addr} {o : HO} (h : H a = some o) (ne : u ≠ o) : H' a = some o := b a o (fun z => by subst z; rw [hp] at h; cases h; exact ne rfl) h
theorem Frm.refl {p td : Addr} {H : Hp} : Frm p td H H := fun _ _ _ _ h => h
theorem Frm.of_ex {p td : Addr} {H H' : Hp} (e : Ex H H') : Frm p td H H' := fun b o _ _ h => e b o h
theorem Frm.ex {p td : Addr} {H H1 H2 : Hp} (a : Frm p td H H1) (e : Ex H1 H2) : Frm p td H H2 := fun c o n m h => e c o (a c o n m h)
theorem Frm.but {p td : Addr} {H H1 H2 : Hp} (a : Frm p td H H1) (e : But p H1 H2) : Frm p td H H2 := fun c o n m h => e c o n (a c o n m h)
theorem Frm.but2 {p td : Addr} {H H1 H2 : Hp} (a : Frm p td H H1) (e : But td H1 H2) : Frm p td H H2 := fun c o n m h => e c o m (a c o n m h)
section
variable {K : PySem.W.Frag} {σ : L2.St} {H : Hp} {te tv : TE} {p C dx : Addr} {fs : List (Str × V)} {f : Str} {v : V} {d : PyData} {D : Ends} {tz : TS}
/-- o.f gets v -/
theorem g_fld {Q : L2.St → Hp → Prop} (h : Ev te σ H (.ref p)) (ho : H p = some (.ins C dx fs)) (hc : Cls K C) (hn : NoAttr K C f) (hl : fs.length < 1000)
    (k : ∀ H', H' p = some (.ins C dx (putF f v fs)) → But p H H' → Q σ H') : gFld K te f v σ H Q :=
  h H (Ex.refl H) _ fun H1 e1 => ⟨p, C, dx, fs, rfl, e1 _ _ ho, hc, hn, hl, k _ upd_same ((But.of_ex e1).trans But.upd)⟩
theorem s_fld (hv : Ev tv σ H v) (h : Ev te σ H (.ref p)) (ho : H p = some (.ins C dx fs)) (hc : Cls K C) (hn : NoAttr K C f) (hl : fs.length < 1000)
    (k : ∀ H', H' p = some (.ins C dx (putF f v fs)) → But p H H' → D.nx σ H') : sFld K te tv f D σ H :=
  hv H (Ex.refl H) _ fun H0 e0 => h H0 e0 _ fun H1 e1 => ⟨p, C, dx, fs, rfl, e1 _ _ (e0 _ _ ho), hc, hn, hl, k _ upd_same ((But.of_ex (e0.trans e1)).trans But.upd)⟩
theorem q_fld (hv : Ev tv σ H v) (h : Ev te σ H (.ref p)) (ho : H p = some (.ins C dx fs)) (hc : Cls K C) (hn : NoAttr K C f) (hl : fs.length < 1000)
    (k : ∀ H', H' p = some (.ins C dx (putF f v fs)) → But p H H' → tz D σ H') : tSeq (sFld K te tv f) tz D σ H := s_fld (D := { D with nx := tz D }) hv h ho hc hn hl k
end
end Rel

namespace Rel
open PySem PySem.Spec PyProof.Rows L2 Evl
section
variable {K : PySem.W.Frag} {σ : L2.St} {H : Hp} {te tv : TE} {ta : TA} {p C dx td pl T : Addr} {cm v : V} {xs : List V} {s : HostS} {D : Ends} {tz : TS} {t : TG} {u : TGs} {n : Nat} {Q : L2.St → Hp → Prop}
theorem g_cons (h : t v σ H fun σ' H' => u xs σ' H' Q) : gCons t u (v :: xs) σ H Q := ⟨v, xs, rfl, h⟩
theorem g_nil (h : Q σ H) : gNil [] σ H Q := ⟨rfl, h⟩
theorem g_tup (hT : H T = some (.tup xs)) (hl : xs.length = n) (h : u xs σ H Q) : gTup K n u (.ref T) σ H Q := ⟨T, xs, rfl, st_of hT, hl, h⟩
theorem s_asgT (h : EvA ta σ H xs) (hl : xs.length = n) (hs : xs.length ≤ 1000) (k : ∀ H1, Ex H H1 → u xs σ H1 D.nx) : tAsg (tTup ta) (gTup K n u) D σ H :=
  h H (Ex.refl H) _ fun H1 e1 => ⟨sz_of (Nat.le_trans hs (by decide)), fun T hT => ⟨T, xs, rfl, st_of upd_same, hl, k _ (e1.trans (Ex.new hT))⟩⟩
theorem q_asgT (h : EvA ta σ H xs) (hl : xs.length = n) (hs : xs.length ≤ 1000) (k : ∀ H1, Ex H H1 → u xs σ H1 (tz D)) : tSeq (tAsg (tTup ta) (gTup K n u)) tz D σ H := s_asgT (D := { D with nx := tz D }) h hl hs k
theorem g_nm {i : Nat} (h : Q (σ.set i (some v)) H) : gName i v σ H Q := h
theorem gh_number {z : Int} (hc : Cls K C) (hn : NoAttr K C "own_number") (h : Ev te σ H (.ref p)) (ho : H p = some (.ins C dx (flds td pl cm s))) (k : ∀ H', H' p = some (.ins C dx (flds td pl cm { s with num := z })) → But p H H' → Q σ H') : gFld K te "own_number" (V.int z) σ H Q :=
  g_fld h ho hc hn fl_len fun H' h' b => k H' (by rw [pu_number] at h'; exact h') b
theorem sh_number {z : Int} (hc : Cls K C) (hn : NoAttr K C "own_number") (hv : Ev tv σ H (V.int z)) (h : Ev te σ H (.ref p)) (ho : H p = some (.ins C dx (flds td pl cm s))) (k : ∀ H', H' p = some (.ins C dx (flds td pl cm { s with num := z })) → But p H H' → D.nx σ H') : sFld K te tv "own_number" D σ H :=
  s_fld hv h ho hc hn fl_len fun H' h' b => k H' (by rw [pu_number] at h'; exact h') b
theorem qh_number {z : Int} (hc : Cls K C) (hn : NoAttr K C "own_number") (hv : Ev tv σ H (V.int z)) (h : Ev te σ H (.ref p)) (ho : H p = some (.ins C dx (flds td pl cm s))) (k : ∀ H', H' p = some (.ins C dx (flds td pl cm { s with num := z })) → But p H H' → tz D σ H') : tSeq (sFld K te tv "own_number") tz D σ H :=
  sh_number (D := { D with nx := tz D }) hc hn hv h ho k
theorem gh_phase {z : Str} (hc : Cls K C) (hn : NoAttr K C "own_phase") (h : Ev te σ H (.ref p)) (ho : H p = some (.ins C dx (flds td pl cm s))) (k : ∀ H', H' p = some (.ins C dx (flds td pl cm { s with phase := z })) → But p H H' → Q σ H') : gFld K te "own_phase" (V.str z) σ H Q :=
  g_fld h ho hc hn fl_len fun H' h' b => k H' (by rw [pu_phase] at h'; exact h') b
theorem sh_phase {z : Str} (hc : Cls K C) (hn : NoAttr K C "own_phase") (hv : Ev tv σ H (V.str z)) (h : Ev te σ H (.ref p)) (ho : H p = some (.ins C dx (flds td pl cm s))) (k : ∀ H', H' p = some (.ins C dx (flds td pl cm { s with phase := z })) → But p H H' → D.nx σ H') : sFld K te tv "own_phase" D σ H :=
  s_fld hv h ho hc hn fl_len fun H' h' b => k H' (by rw [pu_phase] at h'; exact h') b
theorem qh_phase {z : Str} (hc : Cls K C) (hn : NoAttr K C "own_phase") (hv : Ev tv σ H (V.str z)) (h : Ev te σ H (.ref p)) (ho : H p = some (.ins C dx (flds td pl cm s))) (k : ∀ H', H' p = some (.ins C dx (flds td pl cm { s with phase := z })) → But p H H' → tz D σ H') : tSeq (sFld K te tv "own_phase") tz D σ H :=
  sh_phase (D := { D with nx := tz D }) hc hn hv h ho k
theorem gh_hop {z : Int} (hc : Cls K C) (hn : NoAttr K C "own_hop") (h : Ev te σ H (.ref p)) (ho : H p = some (.ins C dx (flds td pl cm s))) (k : ∀ H', H' p = some (.ins C dx (flds td pl cm { s with hop := z })) → But p H H' → Q σ H') : gFld K te "own_hop" (V.int z) σ H Q :=
  g_fld h ho hc hn fl_len fun H' h' b => k H' (by rw [pu_hop] at h'; exact h') b
theorem sh_hop {z : Int} (hc : Cls K C) (hn : NoAttr K C "own_hop") (hv : Ev tv σ H (V.int z)) (h : Ev te σ H (.ref p)) (ho : H p = some (.ins C dx (flds td pl cm s))) (k : ∀ H', H' p = some (.ins C dx (flds td pl cm { s with hop := z })) → But p H H' → D.nx σ H') : sFld K te tv "own_hop" D σ H :=
  s_fld hv h ho hc hn fl_len fun H' h' b => k H' (by rw [pu_hop] at h'; exact h') b
theorem qh_hop {z : Int} (hc : Cls K C) (hn : NoAttr K C "own_hop") (hv : Ev tv σ H (V.int z)) (h : Ev te σ H (.ref p)) (ho : H p = some (.ins C dx (flds td pl cm s))) (k : ∀ H', H' p = some (.ins C dx (flds td pl cm { s with hop := z })) → But p H H' → tz D σ H') : tSeq (sFld K te tv "own_hop") tz D σ H :=
  sh_hop (D := { D with nx := tz D }) hc hn hv h ho k
theorem gh_try {z : Int} (hc : Cls K C) (hn : NoAttr K C "own_try") (h : Ev te σ H (.ref p)) (ho : H p = some (.ins C dx (flds td pl cm s))) (k : ∀ H', H' p = some (.ins C dx (flds td pl cm { s with tri := z })) → But p H H' → Q σ H') : gFld K te "own_try" (V.int z) σ H Q :=
  g_fld h ho hc hn fl_len fun H' h' b => k H' (by rw [pu_try] at h'; exact h') b
theorem sh_try {z : Int} (hc : Cls K C) (hn : NoAttr K C "own_try") (hv : Ev tv σ H (V.int z)) (h : Ev te σ H (.ref p)) (ho : H p = some (.ins C dx (flds td pl cm s))) (k : ∀ H', H' p = some (.ins C dx (flds td pl cm { s with tri := z })) → But p H H' → D.nx σ H') : sFld K te tv "own_try" D σ H :=
  s_fld hv h ho hc hn fl_len fun H' h' b => k H' (by rw [pu_try] at h'; exact h') b
theorem qh_try {z : Int} (hc : Cls K C) (hn : NoAttr K C "own_try") (hv : Ev tv σ H (V.int z)) (h : Ev te σ H (.ref p)) (ho : H p = some (.ins C dx (flds td pl cm s))) (k : ∀ H', H' p = some (.ins C dx (flds td pl cm { s with tri := z })) → But p H H' → tz D σ H') : tSeq (sFld K te tv "own_try") tz D σ H :=
  sh_try (D := { D with nx := tz D }) hc hn hv h ho k
theorem gh_text {z : Option Str} (hc : Cls K C) (hn : NoAttr K C "own_text") (h : Ev te σ H (.ref p)) (ho : H p = some (.ins C dx (flds td pl cm s))) (k : ∀ H', H' p = some (.ins C dx (flds td pl cm { s with text := z })) → But p H H' → Q σ H') : gFld K te "own_text" (oS z) σ H Q :=
  g_fld h ho hc hn fl_len fun H' h' b => k H' (by rw [pu_text] at h'; exact h') b
theorem sh_text {z : Option Str} (hc : Cls K C) (hn : NoAttr K C "own_text") (hv : Ev tv σ H (oS z)) (h : Ev te σ H (.ref p)) (ho : H p = some (.ins C dx (flds td pl cm s))) (k : ∀ H', H' p = some (.ins C dx (flds td pl cm { s with text := z })) → But p H H' → D.nx σ H') : sFld K te tv "own_text" D σ H :=
  s_fld hv h ho hc hn fl_len fun H' h' b => k H' (by rw [pu_text] at h'; exact h') b
theorem qh_text {z : Option Str} (hc : Cls K C) (hn : NoAttr K C "own_text") (hv : Ev tv σ H (oS z)) (h : Ev te σ H (.ref p)) (ho : H p = some (.ins C dx (flds td pl cm s))) (k : ∀ H', H' p = some (.ins C dx (flds td pl cm { s with text := z })) → But p H H' → tz D σ H') : tSeq (sFld K te tv "own_text") tz D σ H :=
  sh_text (D := { D with nx := tz D }) hc hn hv h ho k
theorem gh_goal {z : Option Int} (hc : Cls K C) (hn : NoAttr K C "own_goal") (h : Ev te σ H (.ref p)) (ho : H p = some (.ins C dx (flds td pl cm s))) (k : ∀ H', H' p = some (.ins C dx (flds td pl cm { s with goal := z })) → But p H H' → Q σ H') : gFld K te "own_goal" (oI z) σ H Q :=
  g_fld h ho hc hn fl_len fun H' h' b => k H' (by rw [pu_goal] at h'; exact h') b
theorem sh_goal {z : Option Int} (hc : Cls K C) (hn : NoAttr K C "own_goal") (hv : Ev tv σ H (oI z)) (h : Ev te σ H (.ref p)) (ho : H p = some (.ins C dx (flds td pl cm s))) (k : ∀ H', H' p = some (.ins C dx (flds td pl cm { s with goal := z })) → But p H H' → D.nx σ H') : sFld K te tv "own_goal" D σ H :=
  s_fld hv h ho hc hn fl_len fun H' h' b => k H' (by rw [pu_goal] at h'; exact h') b
theorem qh_goal {z : Option Int} (hc : Cls K C) (hn : NoAttr K C "own_goal") (hv : Ev tv σ H (oI z)) (h : Ev te σ H (.ref p)) (ho : H p = some (.ins C dx (flds td pl cm s))) (k : ∀ H', H' p = some (.ins C dx (flds td pl cm { s with goal := z })) → But p H H' → tz D σ H') : tSeq (sFld K te tv "own_goal") tz D σ H :=
  sh_goal (D := { D with nx := tz D }) hc hn hv h ho k
theorem gh_from {z : Option Int} (hc : Cls K C) (hn : NoAttr K C "own_from") (h : Ev te σ H (.ref p)) (ho : H p = some (.ins C dx (flds td pl cm s))) (k : ∀ H', H' p = some (.ins C dx (flds td pl cm { s with frm := z })) → But p H H' → Q σ H') : gFld K te "own_from" (oI z) σ H Q :=
  g_fld h ho hc hn fl_len fun H' h' b => k H' (by rw [pu_from] at h'; exact h') b
theorem sh_from {z : Option Int} (hc : Cls K C) (hn : NoAttr K C "own_from") (hv : Ev tv σ H (oI z)) (h : Ev te σ H (.ref p)) (ho : H p = some (.ins C dx (flds td pl cm s))) (k : ∀ H', H' p = some (.ins C dx (flds td pl cm { s with frm := z })) → But p H H' → D.nx σ H') : sFld K te tv "own_from" D σ H :=
  s_fld hv h ho hc hn fl_len fun H' h' b => k H' (by rw [pu_from] at h'; exact h') b
theorem qh_from {z : Option Int} (hc : Cls K C) (hn : NoAttr K C "own_from") (hv : Ev tv σ H (oI z)) (h : Ev te σ H (.ref p)) (ho : H p = some (.ins C dx (flds td pl cm s))) (k : ∀ H', H' p = some (.ins C dx (flds td pl cm { s with frm := z })) → But p H H' → tz D σ H') : tSeq (sFld K te tv "own_from") tz D σ H :=
  sh_from (D := { D with nx := tz D }) hc hn hv h ho k
theorem gh_many {z : Int} (hc : Cls K C) (hn : NoAttr K C "own_many") (h : Ev te σ H (.ref p)) (ho : H p = some (.ins C dx (flds td pl cm s))) (k : ∀ H', H' p = some (.ins C dx (flds td pl cm { s with many := z })) → But p H H' → Q σ H') : gFld K te "own_many" (V.int z) σ H Q :=
  g_fld h ho hc hn fl_len fun H' h' b => k H' (by rw [pu_many] at h'; exact h') b
theorem sh_many {z : Int} (hc : Cls K C) (hn : NoAttr K C "own_many") (hv : Ev tv σ H (V.int z)) (h : Ev te σ H (.ref p)) (ho : H p = some (.ins C dx (flds td pl cm s))) (k : ∀ H', H' p = some (.ins C dx (flds td pl cm { s with many := z })) → But p H H' → D.nx σ H') : sFld K te tv "own_many" D σ H :=
  s_fld hv h ho hc hn fl_len fun H' h' b => k H' (by rw [pu_many] at h'; exact h') b
theorem qh_many {z : Int} (hc : Cls K C) (hn : NoAttr K C "own_many") (hv : Ev tv σ H (V.int z)) (h : Ev te σ H (.ref p)) (ho : H p = some (.ins C dx (flds td pl cm s))) (k : ∀ H', H' p = some (.ins C dx (flds td pl cm { s with many := z })) → But p H H' → tz D σ H') : tSeq (sFld K te tv "own_many") tz D σ H :=
  sh_many (D := { D with nx := tz D }) hc hn hv h ho k
theorem gh_pieces {z : Addr} (hc : Cls K C) (hn : NoAttr K C "own_pieces") (h : Ev te σ H (.ref p)) (ho : H p = some (.ins C dx (flds td pl cm s))) (k : ∀ H', H' p = some (.ins C dx (flds td z cm s)) → But p H H' → Q σ H') : gFld K te "own_pieces" (V.ref z) σ H Q :=
  g_fld h ho hc hn fl_len fun H' h' b => k H' (by rw [pu_pieces] at h'; exact h') b
theorem sh_pieces {z : Addr} (hc : Cls K C) (hn : NoAttr K C "own_pieces") (hv : Ev tv σ H (V.ref z)) (h : Ev te σ H (.ref p)) (ho : H p = some (.ins C dx (flds td pl cm s))) (k : ∀ H', H' p = some (.ins C dx (flds td z cm s)) → But p H H' → D.nx σ H') : sFld K te tv "own_pieces" D σ H :=
  s_fld hv h ho hc hn fl_len fun H' h' b => k H' (by rw [pu_pieces] at h'; exact h') b
theorem qh_pieces {z : Addr} (hc : Cls K C) (hn : NoAttr K C "own_pieces") (hv : Ev tv σ H (V.ref z)) (h : Ev te σ H (.ref p)) (ho : H p = some (.ins C dx (flds td pl cm s))) (k : ∀ H', H' p = some (.ins C dx (flds td z cm s)) → But p H H' → tz D σ H') : tSeq (sFld K te tv "own_pieces") tz D σ H :=
  sh_pieces (D := { D with nx := tz D }) hc hn hv h ho k
theorem gh_taken {z : Addr} (hc : Cls K C) (hn : NoAttr K C "own_taken") (h : Ev te σ H (.ref p)) (ho : H p = some (.ins C dx (flds td pl cm s))) (k : ∀ H', H' p = some (.ins C dx (flds z pl cm s)) → But p H H' → Q σ H') : gFld K te "own_taken" (V.ref z) σ H Q :=
  g_fld h ho hc hn fl_len fun H' h' b => k H' (by rw [pu_taken] at h'; exact h') b
theorem sh_taken {z : Addr} (hc : Cls K C) (hn : NoAttr K C "own_taken") (hv : Ev tv σ H (V.ref z)) (h : Ev te σ H (.ref p)) (ho : H p = some (.ins C dx (flds td pl cm s))) (k : ∀ H', H' p = some (.ins C dx (flds z pl cm s)) → But p H H' → D.nx σ H') : sFld K te tv "own_taken" D σ H :=
  s_fld hv h ho hc hn fl_len fun H' h' b => k H' (by rw [pu_taken] at h'; exact h') b
theorem qh_taken {z : Addr} (hc : Cls K C) (hn : NoAttr K C "own_taken") (hv : Ev tv σ H (V.ref z)) (h : Ev te σ H (.ref p)) (ho : H p = some (.ins C dx (flds td pl cm s))) (k : ∀ H', H' p = some (.ins C dx (flds z pl cm s)) → But p H H' → tz D σ H') : tSeq (sFld K te tv "own_taken") tz D σ H :=
  sh_taken (D := { D with nx := tz D }) hc hn hv h ho k
theorem gh_came {z : V} (hc : Cls K C) (hn : NoAttr K C "own_came") (h : Ev te σ H (.ref p)) (ho : H p = some (.ins C dx (flds td pl cm s))) (k : ∀ H', H' p = some (.ins C dx (flds td pl z s)) → But p H H' → Q σ H') : gFld K te "own_came" (z) σ H Q :=
  g_fld h ho hc hn fl_len fun H' h' b => k H' (by rw [pu_came] at h'; exact h') b
theorem sh_came {z : V} (hc : Cls K C) (hn : NoAttr K C "own_came") (hv : Ev tv σ H (z)) (h : Ev te σ H (.ref p)) (ho : H p = some (.ins C dx (flds td pl cm s))) (k : ∀ H', H' p = some (.ins C dx (flds td pl z s)) → But p H H' → D.nx σ H') : sFld K te tv "own_came" D σ H :=
  s_fld hv h ho hc hn fl_len fun H' h' b => k H' (by rw [pu_came] at h'; exact h') b
theorem qh_came {z : V} (hc : Cls K C) (hn : NoAttr K C "own_came") (hv : Ev tv σ H (z)) (h : Ev te σ H (.ref p)) (ho : H p = some (.ins C dx (flds td pl cm s))) (k : ∀ H', H' p = some (.ins C dx (flds td pl z s)) → But p H H' → tz D σ H') : tSeq (sFld K te tv "own_came") tz D σ H :=
  sh_came (D := { D with nx := tz D }) hc hn hv h ho k
end
end Rel

namespace Rel
open PySem PySem.Spec PyProof.Rows L2 Evl
/-- a host in the middle of a method -/
structure HA (C dx : Addr) (H : Hp) (p td pl : Addr) (cm : V) (s : HostS) : Prop where
  p_ : H p = some (.ins C dx (flds td pl cm s))
  c_ : Da N0 H cm (cameD s.came)
  t_ : H td = some (.dK (s.taken.map keyT))
  l_ : H pl = some (.lst (s.pieces.map V.str))
theorem HostAt.ha {C : Addr} {H : Hp} {p td pl : Addr} {s : HostS} (h : HostAt C H p td pl s) : ∃ dx cm, HA C dx H p td pl cm s := by
  obtain ⟨⟨dx, cm, hp, hc⟩, ht, hl⟩ := h
  exact ⟨dx, cm, hp, hc, ht, hl⟩
theorem HA.host {C dx : Addr} {H : Hp} {p td pl : Addr} {cm : V} {s : HostS} (h : HA C dx H p td pl cm s) : HostAt C H p td pl s := ⟨⟨dx, cm, h.p_, h.c_⟩, h.t_, h.l_⟩
theorem HA.ex {C dx : Addr} {H H' : Hp} {p td pl : Addr} {cm : V} {s : HostS} (h : HA C dx H p td pl cm s) (e : Ex H H') : HA C dx H' p td pl cm s := ⟨e _ _ h.p_, h.c_.ex e, e _ _ h.t_, e _ _ h.l_⟩
theorem HostAt.ex {C : Addr} {H H' : Hp} {p td pl : Addr} {s : HostS} (h : HostAt C H p td pl s) (e : Ex H H') : HostAt C H' p td pl s := let ⟨_, _, h⟩ := h.ha; (h.ex e).host
section
variable {K : PySem.W.Frag} {σ : L2.St} {H : Hp} {te tv : TE} {p C dx td pl : Addr} {cm : V} {s : HostS} {D : Ends} {tz : TS} {Q : L2.St → Hp → Prop}
theorem gH_number {z : Int} (hc : Cls K C) (hn : NoAttr K C "own_number") (he : Ev te σ H (.ref p)) (h : HA C dx H p td pl cm s)  (k : ∀ H', HA C dx H' p td pl cm { s with num := z } → But p H H' → Q σ H') : gFld K te "own_number" (V.int z) σ H Q :=
  gh_number hc hn he h.p_ fun H' h' b => k H' ⟨h', h.c_.but b h.p_ id, b.at h.p_ h.t_ (by intro z; cases z), b.at h.p_ h.l_ (by intro z; cases z)⟩ b
theorem sH_number {z : Int} (hc : Cls K C) (hn : NoAttr K C "own_number") (hv : Ev tv σ H (V.int z)) (he : Ev te σ H (.ref p)) (h : HA C dx H p td pl cm s)  (k : ∀ H', HA C dx H' p td pl cm { s with num := z } → But p H H' → D.nx σ H') : sFld K te tv "own_number" D σ H :=
  sh_number hc hn hv he h.p_ fun H' h' b => k H' ⟨h', h.c_.but b h.p_ id, b.at h.p_ h.t_ (by intro z; cases z), b.at h.p_ h.l_ (by intro z; cases z)⟩ b
theorem qH_number {z : Int} (hc : Cls K C) (hn : NoAttr K C "own_number") (hv : Ev tv σ H (V.int z)) (he : Ev te σ H (.ref p)) (h : HA C dx H p td pl cm s)  (k : ∀ H', HA C dx H' p td pl cm { s with num := z } → But p H H' → tz D σ H') : tSeq (sFld K te tv "own_number") tz D σ H :=
  qh_number hc hn hv he h.p_ fun H' h' b => k H' ⟨h', h.c_.but b h.p_ id, b.at h.p_ h.t_ (by intro z; cases z), b.at h.p_ h.l_ (by intro z; cases z)⟩ b
theorem gH_phase {z : Str} (hc : Cls K C) (hn : NoAttr K C "own_phase") (he : Ev te σ H (.ref p)) (h : HA C dx H p td pl cm s)  (k : ∀ H', HA C dx H' p td pl cm { s with phase := z } → But p H H' → Q σ H') : gFld K te "own_phase" (V.str z) σ H Q :=
  gh_phase hc hn he h.p_ fun H' h' b => k H' ⟨h', h.c_.but b h.p_ id, b.at h.p_ h.t_ (by intro z; cases z), b.at h.p_ h.l_ (by intro z; cases z)⟩ b
theorem sH_phase {z : Str} (hc : Cls K C) (hn : NoAttr K C "own_phase") (hv : Ev tv σ H (V.str z)) (he : Ev te σ H (.ref p)) (h : HA C dx H p td pl cm s)  (k : ∀ H', HA C dx H' p td pl cm { s with phase := z } → But p H H' → D.nx σ H') : sFld K te tv "own_phase" D σ H :=
  sh_phase hc hn hv he h.p_ fun H' h' b => k H' ⟨h', h.c_.but b h.p_ id, b.at h.p_ h.t_ (by intro z; cases z), b.at h.p_ h.l_ (by intro z; cases z)⟩ b
theorem qH_phase {z : Str} (hc : Cls K C) (hn : NoAttr K C "own_phase") (hv : Ev tv σ H (V.str z)) (he : Ev te σ H (.ref p)) (h : HA C dx H p td pl cm s)  (k : ∀ H', HA C dx H' p td pl cm { s with phase := z } → But p H H' → tz D σ H') : tSeq (sFld K te tv "own_phase") tz D σ H :=
  qh_phase hc hn hv he h.p_ fun H' h' b => k H' ⟨h', h.c_.but b h.p_ id, b.at h.p_ h.t_ (by intro z; cases z), b.at h.p_ h.l_ (by intro z; cases z)⟩ b
theorem gH_hop {z : Int} (hc : Cls K C) (hn : NoAttr K C "own_hop") (he : Ev te σ H (.ref p)) (h : HA C dx H p td pl cm s)  (k : ∀ H', HA C dx H' p td pl cm { s with hop := z } → But p H H' → Q σ H') : gFld K te "own_hop" (V.int z) σ H Q :=
  gh_hop hc hn he h.p_ fun H' h' b => k H' ⟨h', h.c_.but b h.p_ id, b.at h.p_ h.t_ (by intro z; cases z), b.at h.p_ h.l_ (by intro z; cases z)⟩ b
theorem sH_hop {z : Int} (hc : Cls K C) (hn : NoAttr K C "own_hop") (hv : Ev tv σ H (V.int z)) (he : Ev te σ H (.ref p)) (h : HA C dx H p td pl cm s)  (k : ∀ H', HA C dx H' p td pl cm { s with hop := z } → But p H H' → D.nx σ H') : sFld K te tv "own_hop" D σ H :=
  sh_hop hc hn hv he h.p_ fun H' h' b => k H' ⟨h', h.c_.but b h.p_ id, b.at h.p_ h.t_ (by intro z; cases z), b.at h.p_ h.l_ (by intro z; cases z)⟩ b
theorem qH_hop {z : Int} (hc : Cls K C) (hn : NoAttr K C "own_hop") (hv : Ev tv σ H (V.int z)) (he : Ev te σ H (.ref p)) (h : HA C dx H p td pl cm s)  (k : ∀ H', HA C dx H' p td pl cm { s with hop := z } → But p H H' → tz D σ H') : tSeq (sFld K te tv "own_hop") tz D σ H :=
  qh_hop hc hn hv he h.p_ fun H' h' b => k H' ⟨h', h.c_.but b h.p_ id, b.at h.p_ h.t_ (by intro z; cases z), b.at h.p_ h.l_ (by intro z; cases z)⟩ b
theorem gH_try {z : Int} (hc : Cls K C) (hn : NoAttr K C "own_try") (he : Ev te σ H (.ref p)) (h : HA C dx H p td pl cm s)  (k : ∀ H', HA C dx H' p td pl cm { s with tri := z } → But p H H' → Q σ H') : gFld K te "own_try" (V.int z) σ H Q :=
  gh_try hc hn he h.p_ fun H' h' b => k H' ⟨h', h.c_.but b h.p_ id, b.at h.p_ h.t_ (by intro z; cases z), b.at h.p_ h.l_ (by intro z; cases z)⟩ b
theorem sH_try {z : Int} (hc : Cls K C) (hn : NoAttr K C "own_try") (hv : Ev tv σ H (V.int z)) (he : Ev te σ H (.ref p)) (h : HA C dx H p td pl cm s)  (k : ∀ H', HA C dx H' p td pl cm { s with tri := z } → But p H H' → D.nx σ H') : sFld K te tv "own_try" D σ H :=
  sh_try hc hn hv he h.p_ fun H' h' b => k H' ⟨h', h.c_.but b h.p_ id, b.at h.p_ h.t_ (by intro z; cases z), b.at h.p_ h.l_ (by intro z; cases z)⟩ b
theorem qH_try {z : Int} (hc : Cls K C) (hn : NoAttr K C "own_try") (hv : Ev tv σ H (V.int z)) (he : Ev te σ H (.ref p)) (h : HA C dx H p td pl cm s)  (k : ∀ H', HA C dx H' p td pl cm { s with tri := z } → But p H H' → tz D σ H') : tSeq (sFld K te tv "own_try") tz D σ H :=
  qh_try hc hn hv he h.p_ fun H' h' b => k H' ⟨h', h.c_.but b h.p_ id, b.at h.p_ h.t_ (by intro z; cases z), b.at h.p_ h.l_ (by intro z; cases z)⟩ b
theorem gH_text {z : Option Str} (hc : Cls K C) (hn : NoAttr K C "own_text") (he : Ev te σ H (.ref p)) (h : HA C dx H p td pl cm s)  (k : ∀ H', HA C dx H' p td pl cm { s with text := z } → But p H H' → Q σ H') : gFld K te "own_text" (oS z) σ H Q :=
  gh_text hc hn he h.p_ fun H' h' b => k H' ⟨h', h.c_.but b h.p_ id, b.at h.p_ h.t_ (by intro z; cases z), b.at h.p_ h.l_ (by intro z; cases z)⟩ b
theorem sH_text {z : Option Str} (hc : Cls K C) (hn : NoAttr K C "own_text") (hv : Ev tv σ H (oS z)) (he : Ev te σ H (.ref p)) (h : HA C dx H p td pl cm s)  (k : ∀ H', HA C dx H' p td pl cm { s with text := z } → But p H H' → D.nx σ H') : sFld K te tv "own_text" D σ H :=
  sh_text hc hn hv he h.p_ fun H' h' b => k H' ⟨h', h.c_.but b h.p_ id, b.at h.p_ h.t_ (by intro z; cases z), b.at h.p_ h.l_ (by intro z; cases z)⟩ b
theorem qH_text {z : Option Str} (hc : Cls K C) (hn : NoAttr K C "own_text") (hv : Ev tv σ H (oS z)) (he : Ev te σ H (.ref p)) (h : HA C dx H p td pl cm s)  (k : ∀ H', HA C dx H' p td pl cm { s with text := z } → But p H H' → tz D σ H') : tSeq (sFld K te tv "own_text") tz D σ H :=
  qh_text hc hn hv he h.p_ fun H' h' b => k H' ⟨h', h.c_.but b h.p_ id, b.at h.p_ h.t_ (by intro z; cases z), b.at h.p_ h.l_ (by intro z; cases z)⟩ b
theorem gH_goal {z : Option Int} (hc : Cls K C) (hn : NoAttr K C "own_goal") (he : Ev te σ H (.ref p)) (h : HA C dx H p td pl cm s)  (k : ∀ H', HA C dx H' p td pl cm { s with goal := z } → But p H H' → Q σ H') : gFld K te "own_goal" (oI z) σ H Q :=
  gh_goal hc hn he h.p_ fun H' h' b => k H' ⟨h', h.c_.but b h.p_ id, b.at h.p_ h.t_ (by intro z; cases z), b.at h.p_ h.l_ (by intro z; cases z)⟩ b
theorem sH_goal {z : Option Int} (hc : Cls K C) (hn : NoAttr K C "own_goal") (hv : Ev tv σ H (oI z)) (he : Ev te σ H (.ref p)) (h : HA C dx H p td pl cm s)  (k : ∀ H', HA C dx H' p td pl cm { s with goal := z } → But p H H' → D.nx σ H') : sFld K te tv "own_goal" D σ H :=
  sh_goal hc hn hv he h.p_ fun H' h' b => k H' ⟨h', h.c_.but b h.p_ id, b.at h.p_ h.t_ (by intro z; cases z), b.at h.p_ h.l_ (by intro z; cases z)⟩ b
theorem qH_goal {z : Option Int} (hc : Cls K C) (hn : NoAttr K C "own_goal") (hv : Ev tv σ H (oI z)) (he : Ev te σ H (.ref p)) (h : HA C dx H p td pl cm s)  (k : ∀ H', HA C dx H' p td pl cm { s with goal := z } → But p H H' → tz D σ H') : tSeq (sFld K te tv "own_goal") tz D σ H :=
  qh_goal hc hn hv he h.p_ fun H' h' b => k H' ⟨h', h.c_.but b h.p_ id, b.at h.p_ h.t_ (by intro z; cases z), b.at h.p_ h.l_ (by intro z; cases z)⟩ b
theorem gH_from {z : Option Int} (hc : Cls K C) (hn : NoAttr K C "own_from") (he : Ev te σ H (.ref p)) (h : HA C dx H p td pl cm s)  (k : ∀ H', HA C dx H' p td pl cm { s with frm := z } → But p H H' → Q σ H') : gFld K te "own_from" (oI z) σ H Q :=
  gh_from hc hn he h.p_ fun H' h' b => k H' ⟨h', h.c_.but b h.p_ id, b.at h.p_ h.t_ (by intro z; cases z), b.at h.p_ h.l_ (by intro z; cases z)⟩ b
theorem sH_from {z : Option Int} (hc : Cls K C) (hn : NoAttr K C "own_from") (hv : Ev tv σ H (oI z)) (he : Ev te σ H (.ref p)) (h : HA C dx H p td pl cm s)  (k : ∀ H', HA C dx H' p td pl cm { s with frm := z } → But p H H' → D.nx σ H') : sFld K te tv "own_from" D σ H :=
  sh_from hc hn hv he h.p_ fun H' h' b => k H' ⟨h', h.c_.but b h.p_ id, b.at h.p_ h.t_ (by intro z; cases z), b.at h.p_ h.l_ (by intro z; cases z)⟩ b
theorem qH_from {z : Option Int} (hc : Cls K C) (hn : NoAttr K C "own_from") (hv : Ev tv σ H (oI z)) (he : Ev te σ H (.ref p)) (h : HA C dx H p td pl cm s)  (k : ∀ H', HA C dx H' p td pl cm { s with frm := z } → But p H H' → tz D σ H') : tSeq (sFld K te tv "own_from") tz D σ H :=
  qh_from hc hn hv he h.p_ fun H' h' b => k H' ⟨h', h.c_.but b h.p_ id, b.at h.p_ h.t_ (by intro z; cases z), b.at h.p_ h.l_ (by intro z; cases z)⟩ b
theorem gH_many {z : Int} (hc : Cls K C) (hn : NoAttr K C "own_many") (he : Ev te σ H (.ref p)) (h : HA C dx H p td pl cm s)  (k : ∀ H', HA C dx H' p td pl cm { s with many := z } → But p H H' → Q σ H') : gFld K te "own_many" (V.int z) σ H Q :=
  gh_many hc hn he h.p_ fun H' h' b => k H' ⟨h', h.c_.but b h.p_ id, b.at h.p_ h.t_ (by intro z; cases z), b.at h.p_ h.l_ (by intro z; cases z)⟩ b
theorem sH_many {z : Int} (hc : Cls K C) (hn : NoAttr K C "own_many") (hv : Ev tv σ H (V.int z)) (he : Ev te σ H (.ref p)) (h : HA C dx H p td pl cm s)  (k : ∀ H', HA C dx H' p td pl cm { s with many := z } → But p H H' → D.nx σ H') : sFld K te tv "own_many" D σ H :=
  sh_many hc hn hv he h.p_ fun H' h' b => k H' ⟨h', h.c_.but b h.p_ id, b.at h.p_ h.t_ (by intro z; cases z), b.at h.p_ h.l_ (by intro z; cases z)⟩ b
theorem qH_many {z : Int} (hc : Cls K C) (hn : NoAttr K C "own_many") (hv : Ev tv σ H (V.int z)) (he : Ev te σ H (.ref p)) (h : HA C dx H p td pl cm s)  (k : ∀ H', HA C dx H' p td pl cm { s with many := z } → But p H H' → tz D σ H') : tSeq (sFld K te tv "own_many") tz D σ H :=
  qh_many hc hn hv he h.p_ fun H' h' b => k H' ⟨h', h.c_.but b h.p_ id, b.at h.p_ h.t_ (by intro z; cases z), b.at h.p_ h.l_ (by intro z; cases z)⟩ b
theorem gH_pieces {z : Addr} {zs : List Str} (hc : Cls K C) (hn : NoAttr K C "own_pieces") (he : Ev te σ H (.ref p)) (h : HA C dx H p td pl cm s) (hz : H z = some (.lst (zs.map V.str))) (k : ∀ H', HA C dx H' p td z cm { s with pieces := zs } → But p H H' → Q σ H') : gFld K te "own_pieces" (V.ref z) σ H Q :=
  gh_pieces hc hn he h.p_ fun H' h' b => k H' ⟨h', h.c_.but b h.p_ id, b.at h.p_ h.t_ (by intro z; cases z), b.at h.p_ hz (by intro z; cases z)⟩ b
theorem sH_pieces {z : Addr} {zs : List Str} (hc : Cls K C) (hn : NoAttr K C "own_pieces") (hv : Ev tv σ H (V.ref z)) (he : Ev te σ H (.ref p)) (h : HA C dx H p td pl cm s) (hz : H z = some (.lst (zs.map V.str))) (k : ∀ H', HA C dx H' p td z cm { s with pieces := zs } → But p H H' → D.nx σ H') : sFld K te tv "own_pieces" D σ H :=
  sh_pieces hc hn hv he h.p_ fun H' h' b => k H' ⟨h', h.c_.but b h.p_ id, b.at h.p_ h.t_ (by intro z; cases z), b.at h.p_ hz (by intro z; cases z)⟩ b
theorem qH_pieces {z : Addr} {zs : List Str} (hc : Cls K C) (hn : NoAttr K C "own_pieces") (hv : Ev tv σ H (V.ref z)) (he : Ev te σ H (.ref p)) (h : HA C dx H p td pl cm s) (hz : H z = some (.lst (zs.map V.str))) (k : ∀ H', HA C dx H' p td z cm { s with pieces := zs } → But p H H' → tz D σ H') : tSeq (sFld K te tv "own_pieces") tz D σ H :=
  qh_pieces hc hn hv he h.p_ fun H' h' b => k H' ⟨h', h.c_.but b h.p_ id, b.at h.p_ h.t_ (by intro z; cases z), b.at h.p_ hz (by intro z; cases z)⟩ b
theorem gH_taken {z : Addr} {zs : List (Int × Str)} (hc : Cls K C) (hn : NoAttr K C "own_taken") (he : Ev te σ H (.ref p)) (h : HA C dx H p td pl cm s) (hz : H z = some (.dK (zs.map keyT))) (k : ∀ H', HA C dx H' p z pl cm { s with taken := zs } → But p H H' → Q σ H') : gFld K te "own_taken" (V.ref z) σ H Q :=
  gh_taken hc hn he h.p_ fun H' h' b => k H' ⟨h', h.c_.but b h.p_ id, b.at h.p_ hz (by intro z; cases z), b.at h.p_ h.l_ (by intro z; cases z)⟩ b
theorem sH_taken {z : Addr} {zs : List (Int × Str)} (hc : Cls K C) (hn : NoAttr K C "own_taken") (hv : Ev tv σ H (V.ref z)) (he : Ev te σ H (.ref p)) (h : HA C dx H p td pl cm s) (hz : H z = some (.dK (zs.map keyT))) (k : ∀ H', HA C dx H' p z pl cm { s with taken := zs } → But p H H' → D.nx σ H') : sFld K te tv "own_taken" D σ H :=
  sh_taken hc hn hv he h.p_ fun H' h' b => k H' ⟨h', h.c_.but b h.p_ id, b.at h.p_ hz (by intro z; cases z), b.at h.p_ h.l_ (by intro z; cases z)⟩ b
theorem qH_taken {z : Addr} {zs : List (Int × Str)} (hc : Cls K C) (hn : NoAttr K C "own_taken") (hv : Ev tv σ H (V.ref z)) (he : Ev te σ H (.ref p)) (h : HA C dx H p td pl cm s) (hz : H z = some (.dK (zs.map keyT))) (k : ∀ H', HA C dx H' p z pl cm { s with taken := zs } → But p H H' → tz D σ H') : tSeq (sFld K te tv "own_taken") tz D σ H :=
  qh_taken hc hn hv he h.p_ fun H' h' b => k H' ⟨h', h.c_.but b h.p_ id, b.at h.p_ hz (by intro z; cases z), b.at h.p_ h.l_ (by intro z; cases z)⟩ b
theorem gH_came {z : V} {zs : Option (Int × Int × Int)} (hc : Cls K C) (hn : NoAttr K C "own_came") (he : Ev te σ H (.ref p)) (h : HA C dx H p td pl cm s) (hz : Da N0 H z (cameD zs)) (k : ∀ H', HA C dx H' p td pl z { s with came := zs } → But p H H' → Q σ H') : gFld K te "own_came" (z) σ H Q :=
  gh_came hc hn he h.p_ fun H' h' b => k H' ⟨h', hz.but b h.p_ id, b.at h.p_ h.t_ (by intro z; cases z), b.at h.p_ h.l_ (by intro z; cases z)⟩ b
theorem sH_came {z : V} {zs : Option (Int × Int × Int)} (hc : Cls K C) (hn : NoAttr K C "own_came") (hv : Ev tv σ H (z)) (he : Ev te σ H (.ref p)) (h : HA C dx H p td pl cm s) (hz : Da N0 H z (cameD zs)) (k : ∀ H', HA C dx H' p td pl z { s with came := zs } → But p H H' → D.nx σ H') : sFld K te tv "own_came" D σ H :=
  sh_came hc hn hv he h.p_ fun H' h' b => k H' ⟨h', hz.but b h.p_ id, b.at h.p_ h.t_ (by intro z; cases z), b.at h.p_ h.l_ (by intro z; cases z)⟩ b
theorem qH_came {z : V} {zs : Option (Int × Int × Int)} (hc : Cls K C) (hn : NoAttr K C "own_came") (hv : Ev tv σ H (z)) (he : Ev te σ H (.ref p)) (h : HA C dx H p td pl cm s) (hz : Da N0 H z (cameD zs)) (k : ∀ H', HA C dx H' p td pl z { s with came := zs } → But p H H' → tz D σ H') : tSeq (sFld K te tv "own_came") tz D σ H :=
  qh_came hc hn hv he h.p_ fun H' h' b => k H' ⟨h', hz.but b h.p_ id, b.at h.p_ h.t_ (by intro z; cases z), b.at h.p_ h.l_ (by intro z; cases z)⟩ b
end
end Rel
namespace Rel
open PySem PySem.Spec PyProof.Rows L2 Evl
/-! ### messages and what a host does, as plain functions -/
inductive Msg where
  | piece (h t i m : Int) (z : Str)
  | whole (h t : Int)
  | go (h t : Int)
  | going (h t : Int)
  deriving DecidableEq
def Msg.items : Msg → List PyData
  | .piece h t i m z => [.str "piece", .int h, .int t, .int i, .int m, .str z]
  | .whole h t => [.str "whole", .int h, .int t]
  | .go h t => [.str "go", .int h, .int t]
  | .going h t => [.str "going", .int h, .int t]
def Msg.d (m : Msg) : PyData := .tuple m.items
/-- all signs are signs -/
def okS (z : Str) : Bool := z.cps.all (· < 0x110000)
def Msg.ok : Msg → Prop
  | .piece h t i m z => 1 ≤ h ∧ 1 ≤ t ∧ 0 ≤ i ∧ i < m ∧ m ≤ 1000 ∧ z.length ≤ 1000 ∧ okS z = true
  | .whole h t => 1 ≤ h ∧ 1 ≤ t
  | .go h t => 1 ≤ h ∧ 1 ≤ t
  | .going h t => 1 ≤ h ∧ 1 ≤ t
def HostS.whole (s : HostS) : Bool := s.frm.isSome && (decide (0 < s.many) && decide ((s.taken.length : Int) = s.many))
def HostS.left (s : HostS) : HostS := { s with phase := "away", goal := none, pieces := [] }
def HostS.joined (s : HostS) : Str := Txt.join Str.empty ((List.range s.many.toNat).map fun (i : Nat) => (s.taken.lookup (i : Int)).getD Str.empty)
def HostS.takePiece (s0 : HostS) (snd h n i m : Int) (z : Str) : HostS :=
  let s := if s0.phase = "given" ∧ s0.hop + 1 < h then s0.left else s0
  if ¬ s.phase = "away" ∨ h < s.hop ∨ (h = s.hop ∧ s.frm = none) then s
  else if h = s.hop ∧ (n < s.tri ∨ (n = s.tri ∧ ¬ s.frm = some snd)) then s
  else
    let s2 := if ¬ (h = s.hop ∧ n = s.tri ∧ s.frm = some snd) then { s with hop := h, tri := n, frm := some snd, taken := [], many := m } else s
    if s2.taken.lookup i = none ∧ m = s2.many then { s2 with taken := s2.taken ++ [(i, z)] } else s2
def HostS.takeGo (s : HostS) (snd h n : Int) : HostS :=
  if s.phase = "away" ∧ (h = s.hop ∧ n = s.tri ∧ s.frm = some snd) ∧ s.whole = true then
    { s with text := some s.joined, came := some (snd, s.hop, s.tri), frm := none, phase := "runs", tri := 0, taken := [] } else s
def HostS.answer (s : HostS) (wh : Bool) : HostS :=
  if wh then (if s.phase = "frozen" then { s with phase := "given", text := none } else s) else (if s.phase = "given" then s.left else s)
def HostS.receive (s : HostS) (snd : Int) : Msg → HostS
  | .piece h t i m z => s.takePiece snd h t i m z
  | .go h t => s.takeGo snd h t
  | .whole h t => if s.goal = some snd ∧ h = s.hop + 1 ∧ t = s.tri then s.answer true else s
  | .going h t => if s.goal = some snd ∧ h = s.hop + 1 ∧ t = s.tri then s.answer false else s
def HostS.msgsD (s : HostS) : List PyData :=
  (if s.phase = "frozen" then (List.range s.pieces.length).map fun (i : Nat) => .tuple [oID s.goal, (Msg.piece (s.hop + 1) s.tri (i : Int) (s.pieces.length : Int) (s.pieces.getD i Str.empty)).d] else []) ++
  (if s.phase = "given" then [.tuple [oID s.goal, (Msg.go (s.hop + 1) s.tri).d]] else []) ++
  (if s.phase = "away" ∧ s.whole = true then [.tuple [oID s.frm, (Msg.whole s.hop s.tri).d]] else []) ++
  (match s.came with
    | none => []
    | some c => [cameD (some c)])
/-- what a host is always like -/
structure HostS.Ok (s : HostS) : Prop where
  keys : (s.taken.map (·.1)).Nodup
  range : ∀ q ∈ s.taken, 0 ≤ q.1 ∧ q.1 < s.many
  small : s.many ≤ 1000 ∧ (∀ q ∈ s.taken, q.2.length ≤ 1000) ∧ s.pieces.length ≤ 1000
/-- what a method does -/
def spM (C : Addr) (α : Type) (args : α → List V) (pre : α → HostS → Hp → Prop) (res : α → HostS → HostS) (val : α → HostS → V) : Sp := fun vs H Q _ => ∃ (a : α) (p td pl : Addr) (s : HostS), vs = .ref p :: args a ∧ HostAt C H p td pl s ∧ pre a s H ∧
  ∀ (td' pl' : Addr) (H' : Hp), HostAt C H' p td' pl' (res a s) → (td' = td ∨ H td' = none) → (pl' = pl ∨ H pl' = none) → Frm p td H H' → Q (val a s) H'
/-! ### dicts with numbers as keys -/
section
variable {K : PySem.W.Frag} {σ : L2.St} {H : Hp} {te td ty tv : TE} {a : Addr} {kvs : List (Key × V)} {k : Key} {v : V} {D : Ends} {tz : TS}
theorem ev_dlen (h : Ev te σ H (.ref a)) (ha : H a = some (.dK kvs)) : Ev (tCB (fun xs H Q => ∃ a kvs, xs = [V.ref a] ∧ H a = some (.dK kvs) ∧ Q (.int kvs.length) H) (tCons te tNil)) σ H (.int kvs.length) := fun H1 e Q q =>
  h H1 e _ fun H2 e2 => ⟨a, kvs, rfl, e2 _ _ (e _ _ ha), q H2 e2⟩
theorem ev_dnot (hk : Ev ty σ H (kV k)) (h : Ev td σ H (.ref a)) (ha : H a = some (.dK kvs)) : Ev (tDNotIn ty td) σ H (.bl (!(valV kvs k).isSome)) := fun H1 e Q q =>
  hk H1 e _ fun H2 e2 => h H2 (e.trans e2) _ fun H3 e3 => ⟨a, _, rfl, DGet.k (e3 _ _ (e2 _ _ (e _ _ ha))), q H3 (e2.trans e3)⟩
theorem ev_din (hk : Ev ty σ H (kV k)) (h : Ev td σ H (.ref a)) (ha : H a = some (.dK kvs)) : Ev (tDIn ty td) σ H (.bl (valV kvs k).isSome) := fun H1 e Q q =>
  hk H1 e _ fun H2 e2 => h H2 (e.trans e2) _ fun H3 e3 => ⟨a, _, rfl, DGet.k (e3 _ _ (e2 _ _ (e _ _ ha))), q H3 (e2.trans e3)⟩
theorem ev_dget (h : Ev td σ H (.ref a)) (hk : Ev ty σ H (kV k)) (ha : H a = some (.dK kvs)) (hv : valV kvs k = some v) : Ev (tDGet td ty) σ H v := fun H1 e Q q =>
  h H1 e _ fun H2 e2 => hk H2 (e.trans e2) _ fun H3 e3 => ⟨a, v, rfl, by rw [← hv]; exact DGet.k (e3 _ _ (e2 _ _ (e _ _ ha))), q H3 (e2.trans e3)⟩
theorem s_dput (hv : Ev tv σ H v) (h : Ev td σ H (.ref a)) (hk : Ev ty σ H (kV k)) (ha : H a = some (.dK kvs)) (hl : kvs.length < 100000) (q : ∀ H', H' a = some (.dK (putK kvs k v)) → But a H H' → D.nx σ H') : sDPut td ty tv D σ H :=
  hv H (Ex.refl H) _ fun H1 e1 => h H1 e1 _ fun H2 e2 => hk H2 (e1.trans e2) _ fun H3 e3 => ⟨a, _, rfl, DPut.k (e3 _ _ (e2 _ _ (e1 _ _ ha))) (sz_lt hl), q _ upd_same ((But.of_ex ((e1.trans e2).trans e3)).trans But.upd)⟩
end
theorem valT (i : Int) : ∀ l : List (Int × Str), valV (l.map keyT) (Sum.inl i) = (l.lookup i).map V.str
  | [] => rfl
  | (j, z) :: l => by
    have ih := valT i l
    unfold valV at ih ⊢
    rw [List.map_cons, List.find?_cons, List.lookup_cons]
    by_cases h : i = j
    · subst h
      have e1 : decide ((keyT (i, z)).1 = Sum.inl i) = true := decide_eq_true rfl
      rw [e1, beq_self_eq_true]
      rfl
    · have e1 : decide ((keyT (j, z)).1 = Sum.inl i) = false := decide_eq_false fun q => h (Sum.inl.inj q).symm
      have e2 : (i == j) = false := beq_eq_false_iff_ne.mpr h
      rw [e1, e2]
      exact ih
theorem putT {i : Int} {z : Str} {l : List (Int × Str)} (h : l.lookup i = none) : putK (l.map keyT) (Sum.inl i : Key) (V.str z) = (l ++ [(i, z)]).map keyT := by
  rw [putK_new _ (by rw [valT, h]; rfl), List.map_append]
  rfl
end Rel
namespace Rel
open PySem PySem.Spec PyProof.Rows L2 Evl
section
variable {K : PySem.W.Frag} {σ : L2.St} {H : Hp} {ta tb : TE} {a : Addr} {kvs : List (Str × Int)} {out : List Str} {z : Str} {i : Int}
theorem ev_ninC (h : Ev ta σ H (.str z)) (ha : Ev tb σ H (.ref a)) (hi : (z, i) ∈ kvs) : Ev (tOp (rInC a kvs out true) ta tb) σ H (.bl false) := fun H1 e Q q =>
  h H1 e _ fun H2 e2 => ha H2 (e.trans e2) _ fun H3 e3 => ⟨z, rfl, rfl, .inl ⟨i, hi, q H3 (e2.trans e3)⟩⟩
theorem ev_ixC (ha : Ev tb σ H (.ref a)) (h : Ev ta σ H (.str z)) (hi : (z, i) ∈ kvs) : Ev (tOp (rIxC a kvs) tb ta) σ H (.int i) := fun H1 e Q q =>
  ha H1 e _ fun H2 e2 => h H2 (e.trans e2) _ fun H3 e3 => ⟨z, i, rfl, rfl, hi, q H3 (e2.trans e3)⟩
theorem ev_chain {r r' : R2} {tc : TE} {x y u : V} {b c : Bool} (h1 : Ev ta σ H x) (h2 : Ev tb σ H y) (hr : RV r x y H (.bl b)) (h3 : b = true → Ev tc σ H u) (hr' : b = true → RV r' y u H (.bl c)) : Ev (tChain r r' ta tb tc) σ H (.bl (b && c)) := fun H1 e Q q =>
  h1 H1 e _ fun H2 e2 => h2 H2 (e.trans e2) _ fun H3 e3 => hr H3 ((e.trans e2).trans e3) _ fun H4 e4 => ⟨b, rfl, by
    cases b with
    | true => exact h3 rfl H4 (((e.trans e2).trans e3).trans e4) _ fun H5 e5 => hr' rfl H5 ((((e.trans e2).trans e3).trans e4).trans e5) _ fun H6 e6 => q H6 ((((e2.trans e3).trans e4).trans e5).trans e6)
    | false => exact q H4 ((e2.trans e3).trans e4)⟩
/-- a tuple of data, taken apart -/
theorem q_asgDT {te : TE} {u : TGs} {n : Nat} {ds : List PyData} {D : Ends} {tz : TS} (h : EvD te σ H (.tuple ds)) (hn : ds.length = n) (k : ∀ xs H1, Ex H H1 → DaAll N0 H1 xs ds → u xs σ H1 (tz D)) : tSeq (tAsg te (gTup K n u)) tz D σ H :=
  h H (Ex.refl H) _ fun v H1 e hd => by
    obtain ⟨a, xs, rfl, h1, _, h2⟩ := hd.zero.tup_inv
    exact ⟨a, xs, rfl, st_of h1, by rw [h2.length]; exact hn, k xs H1 e h2⟩
end
end Rel

namespace Rel
open PySem PySem.Spec PyProof.Rows L2 Evl
theorem eqv3 (a b c x y : Int) (z : Option Int) : PyData.eqv (.tuple [.int a, .int b, .int c]) (.tuple [.int x, .int y, oID z]) = decide (a = x ∧ b = y ∧ z = some c) := by
  cases z with
  | none => simp [oID, PyData.eqv, PyData.eqvAll]
  | some z => simp [oID, PyData.eqv, PyData.eqvAll]; rw [Bool.eq_iff_iff]; simp; omega
theorem oI_non (z : Option Int) : oI z = V.non ↔ z = none := by cases z <;> simp [oI]
theorem oI_int (z : Option Int) (i : Int) : V.int i = oI z ↔ z = some i := by cases z <;> simp [oI, eq_comm]
theorem oI_int2 (z : Option Int) (i : Int) : oI z = V.int i ↔ z = some i := by cases z <;> simp [oI]
/-- one of the host's objects, old or new -/
theorem Frm.butF {p td td1 : Addr} {H H1 H2 : Hp} (a : Frm p td H H1) (e : But td1 H1 H2) (h : td1 = td ∨ H td1 = none) : Frm p td H H2 := fun c o n m q => e c o (by
  rcases h with rfl | h
  · exact m
  · rintro rfl; rw [h] at q; cases q) (a c o n m q)
end Rel
namespace Rel
open PySem PySem.Spec PyProof.Rows L2 Evl
theorem hu1 {A : Around} (h : A.units + 64 < cLine) : A.units + 1 < cLine := by omega
/-- what all methods keep, on the way -/
structure Way (C dx : Addr) (H0 : Hp) (p td0 pl0 : Addr) (H : Hp) (td pl : Addr) (cm : V) (s : HostS) : Prop where
  at_ : HA C dx H p td pl cm s
  td_ : td = td0 ∨ H0 td = none
  pl_ : pl = pl0 ∨ H0 pl = none
  fr : Frm p td0 H0 H
section
variable {C dx p td0 pl0 td pl : Addr} {H0 H H1 : Hp} {cm : V} {s s1 : HostS}
theorem Way.ex (a : Way C dx H0 p td0 pl0 H td pl cm s) (e : Ex H H1) : Way C dx H0 p td0 pl0 H1 td pl cm s := ⟨a.at_.ex e, a.td_, a.pl_, a.fr.ex e⟩
theorem Way.put (a : Way C dx H0 p td0 pl0 H td pl cm s) {cm1 : V} (h : HA C dx H1 p td pl cm1 s1) (b : But p H H1) : Way C dx H0 p td0 pl0 H1 td pl cm1 s1 := ⟨h, a.td_, a.pl_, a.fr.but b⟩
theorem Way.of (h : HA C dx H p td pl cm s) : Way C dx H p td pl H td pl cm s := ⟨h, .inl rfl, .inl rfl, Frm.refl⟩
/-- after a call of another method -/
theorem Way.call (a : Way C dx H0 p td0 pl0 H td pl cm s) {td1 pl1 : Addr} (h : HostAt C H1 p td1 pl1 s1) (ht : td1 = td ∨ H td1 = none) (hp : pl1 = pl ∨ H pl1 = none) (fr : Frm p td H H1) (e0 : ∀ b, H b = none → H0 b = none) : ∃ dx1 cm1, Way C dx1 H0 p td0 pl0 H1 td1 pl1 cm1 s1 := by
  obtain ⟨dx1, cm1, h1⟩ := h.ha
  refine ⟨dx1, cm1, h1, ?_, ?_, fun b o n m q => fr b o n ?_ (a.fr b o n m q)⟩
  · rcases ht with rfl | ht
    · exact a.td_
    · exact .inr (e0 _ ht)
  · rcases hp with rfl | hp
    · exact a.pl_
    · exact .inr (e0 _ hp)
  · rcases a.td_ with rfl | h
    · exact m
    · rintro rfl; rw [h] at q; cases q
end
end Rel
namespace Rel
open PySem PySem.Spec PyProof.Rows L2 Evl
/-- an if without else, both roads told by one sentence -/
theorem q_whenC {σ : L2.St} {H : Hp} {t : TT} {tu tz : TS} {D : Ends} {b : Bool} (Mid : Hp → Prop) (h : EvT t σ H b)
    (h1 : b = true → ∀ H1, Ex H H1 → ∀ N : L2.St → Hp → Prop, (∀ H', Mid H' → N σ H') → tu { D with nx := N } σ H1) (h2 : b = false → ∀ H1, Ex H H1 → Mid H1) (k : ∀ H1, Mid H1 → tz D σ H1) : tSeq (tIfS t tu tNext) tz D σ H :=
  q_when h (fun hb H1 e => h1 hb H1 e _ k) (fun hb H1 e => k H1 (h2 hb H1 e))
end Rel
namespace Rel
open PySem PySem.Spec PyProof.Rows L2 Evl
theorem scal_iO (i : Int) (z : Option Int) : scal (.int i) (oI z) = true := by cases z <;> rfl
theorem scal_Oi (i : Int) (z : Option Int) : scal (oI z) (.int i) = true := by cases z <;> rfl
theorem scal_On (z : Option Int) : scal (oI z) .non = true := by cases z <;> rfl
end Rel
namespace Rel
open PySem PySem.Spec PyProof.Rows L2 Evl
section
variable {C dx p td0 pl0 td pl : Addr} {H0 H H1 : Hp} {cm : V} {s s1 : HostS}
theorem Way.newT (a : Way C dx H0 p td0 pl0 H td pl cm s) {q : Addr} (hq : H q = none) : q = td0 ∨ H0 q = none := by
  by_cases h : q = td0
  · exact .inl h
  · refine .inr ?_
    cases h0 : H0 q with
    | none => rfl
    | some o =>
      have hp : q ≠ p := by rintro rfl; rw [a.at_.p_] at hq; cases hq
      rw [a.fr q o hp h h0] at hq
      cases hq
/-- the dict at td alone changed -/
theorem Way.putT (a : Way C dx H0 p td0 pl0 H td pl cm s) {zs : List (Int × Str)} (ht : H1 td = some (.dK (zs.map keyT))) (b : But td H H1) : Way C dx H0 p td0 pl0 H1 td pl cm { s with taken := zs } :=
  ⟨⟨b.at a.at_.t_ a.at_.p_ (by intro z; cases z), a.at_.c_.but b a.at_.t_ id, ht, b.at a.at_.t_ a.at_.l_ (by intro z; cases z)⟩, a.td_, a.pl_, a.fr.butF b a.td_⟩
/-- another dict -/
theorem Way.swapT (a : Way C dx H0 p td0 pl0 H td pl cm s) {q : Addr} (hq : H q = none) (e : Ex H H1) {H2 : Hp} (h : HA C dx H2 p q pl cm s1) (b : But p H1 H2) : Way C dx H0 p td0 pl0 H2 q pl cm s1 :=
  ⟨h, a.newT hq, a.pl_, (a.fr.ex e).but b⟩
end
end Rel
namespace Rel
open PySem PySem.Spec PyProof.Rows L2 Evl
/-- what a method tells that changes nothing -/
def spGet (C : Addr) (f : HostS → V) : Sp := fun vs H Q _ => ∃ (p td pl : Addr) (s : HostS), vs = [.ref p] ∧ HostAt C H p td pl s ∧ ∀ H', Ex H H' → Q (f s) H'
def rJoinK (K : PySem.W.Frag) : V → List V → Hp → VK → Prop := fun x xs H Q => ∃ a p, ∃ ys : List Str, x = .str a ∧ xs = [.ref p] ∧ (SqL K H p (ys.map V.str) ∨ SqT K H p (ys.map V.str)) ∧ (ys.map (·.length)).sum + ys.length * a.length ≤ 16777216 ∧ Q (.str (Txt.join a ys)) H
theorem kpe_join {X : Cx} {K : PySem.W.Frag} (hK : X.K = K) {o e : Expr} {to te : TE} {apos pos : Pos} (ho : PE X o to) (he : PE X e te) (hs : starEach [e] X.env = [(false, eval e X.env)] := by rfl) (hbase : attributeBase o "join" X.env (eval o X.env) = eval o X.env := by rfl) (hline : (apos.endLine == pos.line) = true := by rfl) :
    PE X (.Call (.Attribute o "join" apos) [e] [] pos) (tM1 (rJoinK K) to te) := by subst hK; exact pe_join ho he hs hbase hline
section
variable {K : PySem.W.Frag} {σ : L2.St} {H : Hp} {te tb : TE} {p td pl C : Addr} {s : HostS} {d : PyData} {y : V} {u : TGs} {D : Ends} {tz : TS} {E : XK}
theorem HostAt.exx {H' : Hp} (h : HostAt C H p td pl s) (e : Ex H H') : HostAt C H' p td pl s := by
  obtain ⟨dx, cm, h1⟩ := h.ha
  exact (h1.ex e).host
theorem ev_get {f : HostS → V} {m : Str} (h : Ev te σ H (.ref p)) (ho : HostAt C H p td pl s) (hm : m ∈ (["number", "phase", "hop", "running", "begin", "freeze", "resume", "receive", "take_answer", "leave", "take_piece", "is_whole", "take_go", "messages"] : List Str) := by simp) : Ev (tMeth C m (spGet C f) [] E te tNil) σ H (f s) := fun H1 e Q q =>
  h H1 e _ fun H2 e2 => by
    have h2 := ho.exx (e.trans e2)
    obtain ⟨dx, cm, a2⟩ := h2.ha
    exact ⟨p, dx, _, rfl, a2.p_, fl_no hm, p, td, pl, s, rfl, h2, fun H3 e3 => q H3 (e2.trans e3)⟩
theorem ev_join {a : Str} {zs : List Str} (ho : Ev te σ H (.str a)) (hl : EvD tb σ H (.list (zs.map PyData.str))) (hz : (zs.map (·.length)).sum + zs.length * a.length ≤ 16777216) : Ev (tM1 (rJoinK K) te tb) σ H (.str (Txt.join a zs)) := fun H1 e Q q =>
  ho H1 e _ fun H2 e2 => ⟨⟨a, rfl⟩, hl H2 (e.trans e2) _ fun v H3 e3 hd => by
    obtain ⟨l, xs, rfl, h1, _, h2⟩ := hd.lst_inv
    rw [h2.strs] at h1
    exact ⟨a, l, zs, rfl, rfl, .inl (sq_of h1), hz, q H3 (e2.trans e3)⟩⟩
theorem q_asgDV (h : EvD te σ H d) (hb : Ev tb σ H y) (k : ∀ x H1, Ex H H1 → Da N0 H1 x d → u [x, y] σ H1 (tz D)) : tSeq (tAsg (tTup (tCons te (tCons tb tNil))) (gTup K 2 u)) tz D σ H :=
  h H (Ex.refl H) _ fun x H1 e hd => hb H1 e _ fun H2 e2 => ⟨by show 2 ≤ sizeLine; decide, fun U hU => ⟨U, _, rfl, st_of upd_same, rfl, k x _ ((e.trans e2).trans (Ex.new hU)) (hd.zero.ex (e2.trans (Ex.new hU)))⟩⟩
end
/-! ### counting -/
theorem len_le_of_sub : ∀ {l l' : List Nat}, l.Nodup → (∀ x ∈ l, x ∈ l') → l.length ≤ l'.length
  | [], _, _, _ => Nat.zero_le _
  | x :: l, l', hn, hs => by
    have h1 := len_le_of_sub (l := l) (l' := l'.erase x) (List.nodup_cons.mp hn).2 (fun y hy => (List.mem_erase_of_ne (by rintro rfl; exact (List.nodup_cons.mp hn).1 hy)).mpr (hs y (List.mem_cons_of_mem _ hy)))
    have h2 : x ∈ l' := hs x List.mem_cons_self
    rw [List.length_erase_of_mem h2] at h1
    have h3 : 0 < l'.length := List.length_pos_of_mem h2
    rw [List.length_cons]
    omega
theorem HostS.Ok.few {s : HostS} (h : s.Ok) : s.taken.length ≤ 1000 := by
  have e : ((s.taken.map (·.1)).map Int.toNat).length ≤ (List.range 1000).length := by
    refine len_le_of_sub ?_ fun x hx => ?_
    · rw [List.Nodup, List.pairwise_map]
      refine List.Pairwise.imp_of_mem ?_ h.keys
      intro a b ha hb ne e
      obtain ⟨q, hq, rfl⟩ := List.mem_map.mp ha
      obtain ⟨r, hr, rfl⟩ := List.mem_map.mp hb
      have := h.range q hq
      have := h.range r hr
      omega
    · obtain ⟨a, ha, rfl⟩ := List.mem_map.mp hx
      obtain ⟨q, hq, rfl⟩ := List.mem_map.mp ha
      have := h.range q hq
      have := h.small.1
      rw [List.mem_range]
      omega
  simpa using e
theorem lookup_some {l : List (Int × Str)} {i : Int} (h : i ∈ l.map (·.1)) : ∃ z, l.lookup i = some z ∧ (i, z) ∈ l := by
  induction l with
  | nil => cases h
  | cons q l ih =>
    obtain ⟨j, z⟩ := q
    rw [List.lookup_cons]
    by_cases e : i = j
    · subst e
      exact ⟨z, by rw [beq_self_eq_true], List.mem_cons_self⟩
    · rw [beq_eq_false_iff_ne.mpr e]
      have h2 : i ∈ l.map (·.1) := by
        rcases List.mem_cons.mp h with h | h
        · exact absurd h e
        · exact h
      obtain ⟨z', h3, h4⟩ := ih h2
      exact ⟨z', h3, List.mem_cons_of_mem _ h4⟩
theorem lookup_none {l : List (Int × Str)} {i : Int} : l.lookup i = none ↔ i ∉ l.map (·.1) := by
  constructor
  · intro h m
    obtain ⟨z, e, _⟩ := lookup_some m
    rw [e] at h
    cases h
  · intro h
    induction l with
    | nil => rfl
    | cons q l ih =>
      obtain ⟨j, z⟩ := q
      rw [List.lookup_cons]
      have e : i ≠ j := fun e => h (by rw [e]; exact List.mem_cons_self)
      rw [beq_eq_false_iff_ne.mpr e]
      exact ih fun m => h (List.mem_cons_of_mem _ m)
/-- a whole host has every piece -/
theorem HostS.Ok.all {s : HostS} (h : s.Ok) (hw : (s.taken.length : Int) = s.many) (i : Nat) (hi : (i : Int) < s.many) : ∃ z, s.taken.lookup (i : Int) = some z ∧ z.length ≤ 1000 := by
  by_cases m : (i : Int) ∈ s.taken.map (·.1)
  · obtain ⟨z, e, q⟩ := lookup_some m
    exact ⟨z, e, h.small.2.1 _ q⟩
  · exfalso
    have e : ((s.taken.map (·.1)).map Int.toNat).length ≤ ((List.range s.many.toNat).erase i).length := by
      refine len_le_of_sub ?_ fun x hx => ?_
      · rw [List.Nodup, List.pairwise_map]
        refine List.Pairwise.imp_of_mem ?_ h.keys
        intro a b ha hb ne e
        obtain ⟨q, hq, rfl⟩ := List.mem_map.mp ha
        obtain ⟨r, hr, rfl⟩ := List.mem_map.mp hb
        have := h.range q hq
        have := h.range r hr
        omega
      · obtain ⟨a, ha, rfl⟩ := List.mem_map.mp hx
        obtain ⟨q, hq, rfl⟩ := List.mem_map.mp ha
        have hr := h.range q hq
        refine (List.mem_erase_of_ne ?_).mpr (List.mem_range.mpr (by omega))
        intro e
        apply m
        rw [← e]
        rw [show ((q.1.toNat : Nat) : Int) = q.1 by omega]
        exact ha
    rw [List.length_erase_of_mem (List.mem_range.mpr (by omega))] at e
    simp only [List.length_map, List.length_range] at e
    omega
end Rel
namespace Rel
open PySem PySem.Spec PyProof.Rows L2 Evl
theorem sum_len {m : Nat} : ∀ {l : List Str}, (∀ x ∈ l, x.length ≤ m) → (l.map (·.length)).sum ≤ m * l.length
  | [], _ => Nat.zero_le _
  | x :: l, h => by
    have h1 := sum_len fun y hy => h y (List.mem_cons_of_mem x hy)
    have h2 := h x List.mem_cons_self
    rw [List.map_cons, List.sum_cons, List.length_cons, Nat.mul_add]
    omega
end Rel
namespace Rel
open PySem PySem.Spec PyProof.Rows L2 Evl
theorem eqv2 (a b x y : Int) : PyData.eqv (.tuple [.int a, .int b]) (.tuple [.int x, .int y]) = decide (a = x ∧ b = y) := by
  simp [PyData.eqv, PyData.eqvAll]
  rw [Bool.eq_iff_iff]
  simp
section
variable {σ : L2.St} {H : Hp} {te : TE} {ta : TA} {p td pl C : Addr} {s : HostS} {D : Ends} {E : XK} {α : Type} {args : α → List V} {pre : α → HostS → Hp → Prop} {res : α → HostS → HostS} {val : α → HostS → V} {m : Str}
/-- o.m(..), whose answer is let go -/
theorem s_callM (a : α) (h : Ev te σ H (.ref p)) (hx : EvA ta σ H (args a)) (ho : HostAt C H p td pl s) (hp : ∀ H', Ex H H' → pre a s H')
    (k : ∀ (td' pl' : Addr) (H' : Hp), HostAt C H' p td' pl' (res a s) → (td' = td ∨ H td' = none) → (pl' = pl ∨ H pl' = none) → Frm p td H H' → D.nx σ H')
    (hm : m ∈ (["number", "phase", "hop", "running", "begin", "freeze", "resume", "receive", "take_answer", "leave", "take_piece", "is_whole", "take_go", "messages"] : List Str) := by simp) : tDrop (tMeth C m (spM C α args pre res val) [] E te ta) D σ H :=
  h H (Ex.refl H) _ fun H1 e1 => by
    have h1 := ho.exx e1
    obtain ⟨dx, cm, a1⟩ := h1.ha
    refine ⟨p, dx, _, rfl, a1.p_, fl_no hm, hx H1 e1 _ fun H2 e2 => ⟨a, p, td, pl, s, by rw [List.append_nil], h1.exx e2, hp H2 (e1.trans e2), fun td' pl' H' hh ht hp fr => ?_⟩⟩
    exact k td' pl' H' hh (ht.imp id fun z => fresh_back (e1.trans e2) z) (hp.imp id fun z => fresh_back (e1.trans e2) z) (fun c o n n2 q => fr c o n n2 ((e1.trans e2) c o q))
end
end Rel
namespace Rel
open PySem PySem.Spec PyProof.Rows L2 Evl
section
variable {K : PySem.W.Frag} {σ : L2.St} {H : Hp} {ta tb te : TE} {t : TT} {xs ys : List V} {d : PyData} {D : Ends} {tz : TS} {l : Addr}
theorem el_if {b : Bool} (h : EvT t σ H b) (h1 : b = true → EvL ta σ H xs) (h2 : b = false → EvL tb σ H xs) : EvL (tIf t ta tb) σ H xs := fun H1 e Q q => h H1 e _ fun H2 e2 => by
  cases b with
  | true => exact h1 rfl H2 (e.trans e2) Q fun p H3 hp e3 h3 => q p H3 (fresh_back e2 hp) (e2.trans e3) h3
  | false => exact h2 rfl H2 (e.trans e2) Q fun p H3 hp e3 h3 => q p H3 (fresh_back e2 hp) (e2.trans e3) h3
theorem s_appD (hl : H l = some (.lst xs)) (ha : Ev ta σ H (.ref l)) (h : EvD te σ H d) (hz : xs.length < 100000) (k : ∀ v H1, Ex H H1 → Da N0 H1 v d → D.nx σ (upd H1 l (.lst (xs ++ [v])))) :
    tDrop (tBM K "list" rAppend ta (tCons te tNil)) D σ H := ha H (Ex.refl H) _ fun H1 e1 =>
  ⟨Or.inl ⟨rfl, xs, sq_of (e1 l _ hl)⟩, h H1 e1 _ fun v H2 e2 hd => ⟨l, xs, v, rfl, rfl, e2 l _ (e1 l _ hl), sz_lt hz, k v H2 (e1.trans e2) hd.zero⟩⟩
theorem s_retCat (hx : Ev ta σ H (.ref l)) (hl : H l = some (.lst xs)) (hy : EvL tb σ H ys) (hz : xs.length + ys.length ≤ 100000) (k : ∀ q H1, H q = none → Ex H H1 → H1 q = some (.lst (xs ++ ys)) → D.rt (.ref q) H1) : tRet (tOp rCat ta tb) D σ H :=
  hx H (Ex.refl H) _ fun H1 e1 => hy H1 e1 _ fun p H2 hp e2 h2 => ⟨l, p, xs, ys, rfl, rfl, e2 _ _ (e1 _ _ hl), h2, sz_of hz, fun q hq => k q _ (fresh_back (e1.trans e2) hq) ((e1.trans e2).trans (Ex.new hq)) upd_same⟩
end
/-! ### data without lists -/
mutual
def noL : PyData → Bool
  | .list _ => false
  | .dict _ => false
  | .tuple ds => noLs ds
  | _ => true
def noLs : List PyData → Bool
  | [] => true
  | d :: ds => noL d && noLs ds
end
def TupO : HO → Prop
  | .tup _ => True
  | _ => False
mutual
theorem Da.toT {N N' : Addr → Prop} {H H' : Hp} (e : ∀ a o, TupO o → H a = some o → ¬ N a → H' a = some o ∧ ¬ N' a) : ∀ {v : V} {d : PyData}, noL d = true → Da N H v d → Da N' H' v d
  | _, _, _, .non => .non
  | _, _, _, .bl b => .bl b
  | _, _, _, .int i => .int i
  | _, _, _, .str x => .str x
  | _, _, z, .lst _ _ _ => by simp [noL] at z
  | _, _, z, .tup h n hs => .tup (e _ (.tup _) trivial h n).1 (e _ (.tup _) trivial h n).2 (DaAll.toT e (by simpa [noL] using z) hs)
theorem DaAll.toT {N N' : Addr → Prop} {H H' : Hp} (e : ∀ a o, TupO o → H a = some o → ¬ N a → H' a = some o ∧ ¬ N' a) : ∀ {vs : List V} {ds : List PyData}, noLs ds = true → DaAll N H vs ds → DaAll N' H' vs ds
  | _, _, _, .nil => .nil
  | _ :: _, d :: ds, z, .cons h hs =>
    have z' : noL d = true ∧ noLs ds = true := by simpa [noLs] using z
    .cons (Da.toT e z'.1 h) (DaAll.toT e z'.2 hs)
end
theorem Da.butT {p : Addr} {H H' : Hp} {u : HO} {v : V} {d : PyData} (h : Da N0 H v d) (z : noL d = true) (b : But p H H') (hp : H p = some u) (hu : ¬ TupO u) : Da N0 H' v d :=
  h.toT (fun a o so q n => ⟨b a o (fun z => by subst z; rw [hp] at q; cases q; exact hu so) q, n⟩) z
theorem DaAll.butT {p : Addr} {H H' : Hp} {u : HO} {vs : List V} {ds : List PyData} (h : DaAll N0 H vs ds) (z : noLs ds = true) (b : But p H H') (hp : H p = some u) (hu : ¬ TupO u) : DaAll N0 H' vs ds :=
  h.toT (fun a o so q n => ⟨b a o (fun z => by subst z; rw [hp] at q; cases q; exact hu so) q, n⟩) z
theorem noLs_append {a b : List PyData} : noLs (a ++ b) = (noLs a && noLs b) := by
  induction a with
  | nil => simp [noLs]
  | cons x a ih => simp [noLs, ih, Bool.and_assoc]
theorem noLs_map {α : Type} {f : α → PyData} {l : List α} (h : ∀ a ∈ l, noL (f a) = true) : noLs (l.map f) = true := by
  induction l with
  | nil => rfl
  | cons x l ih => simp [noLs, h x List.mem_cons_self, ih fun a m => h a (List.mem_cons_of_mem _ m)]
theorem noL_oID (z : Option Int) : noL (oID z) = true := by cases z <;> rfl
theorem noL_msg (m : Msg) : noL m.d = true := by cases m <;> rfl
/-! ### what a host would tell -/
def HostS.pcD (s : HostS) (i : Nat) : PyData := .tuple [oID s.goal, (Msg.piece (s.hop + 1) s.tri (i : Int) (s.pieces.length : Int) (s.pieces.getD i Str.empty)).d]
def spMsgs (C : Addr) : Sp := fun vs H Q _ => ∃ (p td pl : Addr) (s : HostS), vs = [.ref p] ∧ HostAt C H p td pl s ∧ s.pieces.length ≤ 1000 ∧
  ∀ q xs H', H q = none → Ex H H' → H' q = some (.lst xs) → DaAll N0 H' xs s.msgsD → Q (.ref q) H'
end Rel
namespace Rel
open PySem PySem.Spec PyProof.Rows L2 Evl
/-- an if without else, both roads told by one sentence of the slots, too -/
theorem q_whenS {σ : L2.St} {H : Hp} {t : TT} {tu tz : TS} {D : Ends} {b : Bool} (Mid : L2.St → Hp → Prop) (h : EvT t σ H b)
    (h1 : b = true → ∀ H1, Ex H H1 → ∀ N : L2.St → Hp → Prop, (∀ σ' H', Mid σ' H' → N σ' H') → tu { D with nx := N } σ H1) (h2 : b = false → ∀ H1, Ex H H1 → Mid σ H1) (k : ∀ σ' H1, Mid σ' H1 → tz D σ' H1) : tSeq (tIfS t tu tNext) tz D σ H :=
  q_when h (fun hb H1 e => h1 hb H1 e _ k) (fun hb H1 e => k σ H1 (h2 hb H1 e))
/-- messages, on the way -/
structure MsP (p f0 : Addr) (H0 : Hp) (ds : List PyData) (σ : L2.St) (H : Hp) : Prop where
  st : ∃ v2 v3 v4, σ = [some (.ref p), some (.ref f0), v2, v3, v4]
  ls : ∃ xs, H f0 = some (.lst xs) ∧ DaAll N0 H xs ds
  no : noLs ds = true
  ex : Ex H0 H
section
variable {K : PySem.W.Frag} {p f0 : Addr} {H0 H : Hp} {ds : List PyData} {d : PyData} {σ : L2.St} {te : TE} {D : Ends}
theorem MsP.ex' (m : MsP p f0 H0 ds σ H) {H1 : Hp} (e : Ex H H1) : MsP p f0 H0 ds σ H1 := by
  obtain ⟨xs, h1, h2⟩ := m.ls
  exact ⟨m.st, ⟨xs, e _ _ h1, h2.ex e⟩, m.no, m.ex.trans e⟩
theorem MsP.app (hf : H0 f0 = none) (m : MsP p f0 H0 ds σ H) (hd : noL d = true) (n : ds.length < 1500) (h : EvD te σ H d) (k : ∀ H', MsP p f0 H0 (ds ++ [d]) σ H' → D.nx σ H') : tDrop (tBM K "list" rAppend (tVar 1) (tCons te tNil)) D σ H := by
  obtain ⟨⟨v2, v3, v4, rfl⟩, ⟨xs, h1, h2⟩, h3, h4⟩ := m
  refine s_appD h1 (ev_var rfl) h (by rw [h2.length]; omega) fun v H1 e1 hv => k _ ⟨⟨_, _, _, rfl⟩, ⟨_, upd_same, ?_⟩, ?_, Ex.mut (h4.trans e1) hf⟩
  · exact ((h2.ex e1).butT h3 But.upd (e1 _ _ h1) id).append (DaAll.one (hv.butT hd But.upd (e1 _ _ h1) id))
  · rw [noLs_append, h3]
    simp [noLs, hd]
end
end Rel
namespace Rel
open PySem PySem.Spec PyProof.Rows L2 Evl
theorem enum_at {K : PySem.W.Frag} {σ : L2.St} {H : Hp} {ta : TA} {a : Addr} {xs : List V} {R : It → Hp → Prop} (h : EvA ta σ H [.ref a]) (ha : SqL K H a xs) (k : ∀ H1, Ex H H1 → R (Ite K a) H1) : iEnum K ta σ H R :=
  h H (Ex.refl H) _ fun H1 e1 => ⟨a, xs, rfl, ex_l e1 ha, k H1 e1⟩
end Rel
namespace Rel
open PySem PySem.Spec PyProof.Rows L2 Evl
section
variable {K : PySem.W.Frag} {σ : L2.St} {H : Hp} {te tv : TE} {p C dx : Addr} {fs : List (Str × V)} {f : Str} {xs : List V} {D : Ends} {tz : TS}
theorem q_fldL (hv : EvL tv σ H xs) (h : Ev te σ H (.ref p)) (ho : H p = some (.ins C dx fs)) (hc : Cls K C) (hn : NoAttr K C f) (hl : fs.length < 1000)
    (k : ∀ q H', H q = none → H' q = some (.lst xs) → H' p = some (.ins C dx (putF f (.ref q) fs)) → But p H H' → tz D σ H') : tSeq (sFld K te tv f) tz D σ H :=
  hv H (Ex.refl H) _ fun q H0 hq e0 hq0 => h H0 e0 _ fun H1 e1 => ⟨p, C, dx, fs, rfl, e1 _ _ (e0 _ _ ho), hc, hn, hl,
    k q _ hq (by rw [upd_ne (by rintro rfl; rw [ho] at hq; cases hq)]; exact e1 _ _ hq0) upd_same ((But.of_ex (e0.trans e1)).trans But.upd)⟩
theorem q_fldK (h : Ev te σ H (.ref p)) (ho : H p = some (.ins C dx fs)) (hc : Cls K C) (hn : NoAttr K C f) (hl : fs.length < 1000) (hh : ∀ H H1 : Hp, Ex H H1 → Ev te σ H (.ref p) → Ev te σ H1 (.ref p) := fun _ _ e h => h.mono e)
    (k : ∀ q H', H q = none → H' q = some (.dK []) → H' p = some (.ins C dx (putF f (.ref q) fs)) → But p H H' → tz D σ H') : tSeq (sFld K te tDNewK f) tz D σ H := fun q hq =>
  h _ (Ex.new hq) _ fun H1 e1 => ⟨p, C, dx, fs, rfl, e1 _ _ (Ex.new hq _ _ ho), hc, hn, hl,
    k q _ hq (by rw [upd_ne (by rintro rfl; rw [ho] at hq; cases hq)]; exact e1 _ _ upd_same) upd_same ((But.of_ex ((Ex.new hq).trans e1)).trans But.upd)⟩
end
/-- a host anew -/
def HostS.new (n : Int) : HostS := { num := n, phase := "away", hop := 0, tri := 0, text := none, goal := none, pieces := [], taken := [], frm := none, many := 0, came := none }
theorem HostS.new_ok (n : Int) : (HostS.new n).Ok := ⟨List.nodup_nil, fun _ h => (by cases h), by show (0 : Int) ≤ 1000; decide, fun _ h => (by cases h), Nat.zero_le _⟩
def spInit (C : Addr) : Sp := fun vs H Q _ => ∃ (p dx : Addr) (n : Int), vs = [.ref p, .int n] ∧ H p = some (.ins C dx []) ∧ 0 ≤ n ∧
  ∀ td pl H', HostAt C H' p td pl (HostS.new n) → H td = none → H pl = none → But p H H' → Q .non H'
end Rel
namespace Rel
open PySem PySem.Spec PyProof.Rows L2 Evl
section
variable {σ : L2.St} {H : Hp} {tt : TT} {te : TE} {vs : List Nat}
/-- over a range by steps -/
theorem ed_lcC {ta : TA} {j : Nat} {a b c : Int} {n : Nat} (h : EvA ta σ H [.int a, .int b, .int c]) (hn : n ≤ 40000) (hr : RgC a b c n) (hw : ∀ x, wipe ((wipe σ vs).set j (some x)) vs = wipe σ vs) (f : Nat → Bool) (d : Nat → PyData)
    (ht : ∀ (i : Nat), i < n → EvT tt ((wipe σ vs).set j (some (.int (a + (i : Nat) * c)))) H (f i))
    (he : ∀ (i : Nat), i < n → f i = true → EvD te ((wipe σ vs).set j (some (.int (a + (i : Nat) * c)))) H (d i)) : EvD (tLc (iRng3 ta) (gName j) tt te vs) σ H (.list (givenD n f d)) := fun H1 e Q q =>
  h H1 e _ fun H2 e2 => by
    refine ⟨a, b, c, n, rfl, hr, fun D hD => ?_⟩
    refine lc_ed (H := H) (walk_rangeC (lo := a) (c := c) (n := n)) f d hn (e.trans e2) (fun _ _ => trivial) ?_ hD (fun H' e' hd' => q _ _ (e2.trans e') (hd'.anti (Nw.sub e2)))
    rintro i x H3 H4 hi e3 ⟨rfl, rfl⟩ R hR
    exact hR _ _ (Ex.refl _) (hw _) (ht i hi) (he i hi)
theorem ev_cutS {tl th : TO} {z : Str} {lo hi : Option Int} (h : Ev te σ H (.str z)) (h1 : EvO tl σ H lo) (h2 : EvO th σ H hi) (hz : z.length ≤ 100000) : Ev (tSl rSlS te tl th) σ H (.str (cutS z lo hi)) := fun H1 e _ q =>
  h H1 e _ fun H2 e2 => h1 H2 (e.trans e2) _ fun H3 e3 => h2 H3 ((e.trans e2).trans e3) _ fun H4 e4 => ⟨z, rfl, sz_of hz, q H4 ((e2.trans e3).trans e4)⟩
end
end Rel
namespace Rel
open PySem PySem.Spec PyProof.Rows L2 Evl
theorem rng1_at {σ : L2.St} {H : Hp} {ta : TA} {R : It → Hp → Prop} {n : Int} (h : EvA ta σ H [.int n]) (h1 : -(2 ^ 62) ≤ n) (h2 : n < 2 ^ 62) (k : ∀ H1, Ex H H1 → R (Itr 0 n.toNat) H1) : iRng1 ta σ H R :=
  h H (Ex.refl H) _ fun H1 e1 => ⟨n, rfl, h1, h2, k H1 e1⟩
theorem rng2_at {σ : L2.St} {H : Hp} {ta : TA} {R : It → Hp → Prop} {m n : Int} (h : EvA ta σ H [.int m, .int n]) (h0 : -(2 ^ 62) ≤ m ∧ m < 2 ^ 62) (h1 : -(2 ^ 62) ≤ n) (h2 : n < 2 ^ 62) (k : ∀ H1, Ex H H1 → R (Itr m (n - m).toNat) H1) : iRng2 ta σ H R :=
  h H (Ex.refl H) _ fun H1 e1 => ⟨m, n, rfl, ⟨h0.1, h0.2, h1, h2⟩, k H1 e1⟩
theorem ev_len1 {K : PySem.W.Frag} {σ : L2.St} {H : Hp} {te : TE} {a : Addr} {xs : List V} (h : Ev te σ H (.ref a)) (ha : H a = some (.lst xs)) : Ev (tCB (rLenU K) (tCons te tNil)) σ H (.int xs.length) :=
  ev_cb (ea_cons h ea_nil) (fun H1 e1 Q q => ⟨.ref a, xs.length, rfl, .inl ⟨xs, ex_l e1 (sq_of ha), rfl⟩, q H1 (Ex.refl H1)⟩)
end Rel
namespace Rel
open PySem PySem.Spec PyProof.Rows L2 Evl
/-- the loop over a walk that is told -/
def LoopOn (J : It) (g : TG) (tb : TS) (D : Ends) (σ : L2.St) (H1 : Hp) : Prop := ∃ W : Nat → Nat → L2.St → Hp → Prop, (∃ m, W 0 m σ H1) ∧ ∀ i m σ H, W i m σ H →
  (J.stop i H ∧ D.nx σ H) ∨ (J.go i H ∧ ∃ N : L2.St → Hp → Prop, (∀ σ' H', N σ' H' → ∃ m', m' < m ∧ W (i + 1) m' σ' H') ∧ ∀ x H', J.yld i H x H' → g x σ H' fun σ2 H2 => tb { D with nx := N, ct := N, bk := D.nx } σ2 H2)
section
variable {K : PySem.W.Frag} {σ : L2.St} {H : Hp} {ta : TA} {te : TE} {g : TG} {tb tz : TS} {D : Ends} {a : Addr} {xs : List V}
theorem s_forR1 {n : Int} (h : EvA ta σ H [.int n]) (h1 : -(2 ^ 62) ≤ n) (h2 : n < 2 ^ 62) (k : ∀ H1, Ex H H1 → LoopOn (Itr 0 n.toNat) g tb D σ H1) : tFor (iRng1 ta) g tb D σ H := by
  delta tFor; exact rng1_at h h1 h2 k
theorem q_forR1 {n : Int} (h : EvA ta σ H [.int n]) (h1 : -(2 ^ 62) ≤ n) (h2 : n < 2 ^ 62) (k : ∀ H1, Ex H H1 → LoopOn (Itr 0 n.toNat) g tb { D with nx := tz D } σ H1) : tSeq (tFor (iRng1 ta) g tb) tz D σ H := s_forR1 (D := { D with nx := tz D }) h h1 h2 k
theorem s_forR2 {m n : Int} (h : EvA ta σ H [.int m, .int n]) (h0 : -(2 ^ 62) ≤ m ∧ m < 2 ^ 62) (h1 : -(2 ^ 62) ≤ n) (h2 : n < 2 ^ 62) (k : ∀ H1, Ex H H1 → LoopOn (Itr m (n - m).toNat) g tb D σ H1) : tFor (iRng2 ta) g tb D σ H := by
  delta tFor; exact rng2_at h h0 h1 h2 k
theorem q_forR2 {m n : Int} (h : EvA ta σ H [.int m, .int n]) (h0 : -(2 ^ 62) ≤ m ∧ m < 2 ^ 62) (h1 : -(2 ^ 62) ≤ n) (h2 : n < 2 ^ 62) (k : ∀ H1, Ex H H1 → LoopOn (Itr m (n - m).toNat) g tb { D with nx := tz D } σ H1) : tSeq (tFor (iRng2 ta) g tb) tz D σ H := s_forR2 (D := { D with nx := tz D }) h h0 h1 h2 k
theorem s_forE (h : EvA ta σ H [.ref a]) (ha : SqL K H a xs) (k : ∀ H1, Ex H H1 → LoopOn (Ite K a) g tb D σ H1) : tFor (iEnum K ta) g tb D σ H := by
  delta tFor; exact enum_at h ha k
theorem q_forE (h : EvA ta σ H [.ref a]) (ha : SqL K H a xs) (k : ∀ H1, Ex H H1 → LoopOn (Ite K a) g tb { D with nx := tz D } σ H1) : tSeq (tFor (iEnum K ta) g tb) tz D σ H := s_forE (D := { D with nx := tz D }) h ha k
end
theorem loop_on {J : It} {n : Nat} {G : Hp → Prop} {Y : Nat → Hp → V → Hp → Prop} (w : Walk J n G Y) {g : TG} {tb : TS} {D : Ends} {σ : L2.St} {H : Hp} (Pv : Nat → L2.St → Hp → Prop) (h0 : Pv 0 σ H) (hG : ∀ i σ H, i ≤ n → Pv i σ H → G H)
    (hs : ∀ i x σ H H', i < n → Pv i σ H → Y i H x H' → g x σ H' fun σ2 H2 => tb { D with nx := Pv (i + 1), ct := Pv (i + 1), bk := D.nx } σ2 H2) (hd : ∀ σ H, Pv n σ H → D.nx σ H) : LoopOn J g tb D σ H := for_it w Pv h0 hG hs hd
end Rel
namespace Rel
open PySem PySem.Spec PyProof.Rows L2 Evl
theorem ko_inQ {X : Cx} {K : PySem.W.Frag} (hK : X.K = K) : OpR X (compareOp .In) (rIn K false) := by subst hK; exact op_in_seq
theorem ko_ninQ {X : Cx} {K : PySem.W.Frag} (hK : X.K = K) : OpR X (compareOp .NotIn) (rIn K true) := by subst hK; exact op_notIn_seq
theorem km_index {X : Cx} {K : PySem.W.Frag} (hK : X.K = K) : MtR X "list.index" (rIndex K) := by subst hK; exact mt_index
end Rel

namespace Rel
open PySem PySem.Spec PyProof.Rows L2 Evl
def HostS.running (s : HostS) : Option Str := if s.phase = "runs" then s.text else none
end Rel
end
section
/-! cut: a text in pieces -/
namespace Rel
open PySem PySem.Spec PyProof.Rows L2 Evl
/-- how many pieces -/
def chN (z : Str) (n : Int) : Nat := (Builtin.Range.rangeSize 0 z.length n).toNat
def chunk (z : Str) (n : Int) (i : Nat) : Str := cutS z (some (0 + (i : Int) * n)) (some (0 + (i : Int) * n + n))
def chunks (z : Str) (n : Int) : List Str := (List.range (chN z n)).map (chunk z n)
theorem take_min (l : List Nat) (a b : Nat) (h : min (a + b) l.length - a = min b (l.length - a)) : (l.drop a).take (min (a + b) l.length - a) = (l.drop a).take b := by
  rw [h]
  have : min b (l.length - a) = min b (l.drop a).length := by rw [List.length_drop]
  rw [this, ← List.take_take, List.take_length]
theorem chunk_list (z : Str) (k i : Nat) (hk : 1 ≤ k) : (chunk z (k : Int) i).cps.toList = (z.cps.toList.drop (i * k)).take k := by
  have hl : z.cps.toList.length = z.length := Array.length_toList
  have e1 : (0 + (i : Int) * (k : Int)) = ((i * k : Nat) : Int) := by rw [Int.natCast_mul]; omega
  have e2 : (0 + (i : Int) * (k : Int) + (k : Int)) = ((i * k + k : Nat) : Int) := by rw [Int.natCast_add, Int.natCast_mul]; omega
  unfold chunk cutS
  rw [e2, e1, HT.sIx_nat, HT.sIx_nat]
  show (z.cps.toList.drop (min (i * k) z.length)).take (min (i * k + k) z.length - min (i * k) z.length) = _
  by_cases h : i * k ≤ z.length
  · rw [Nat.min_eq_left h, ← hl]
    exact take_min _ _ _ (by omega)
  · have h2 : z.length < i * k := by omega
    rw [Nat.min_eq_right (by omega : z.length ≤ i * k)]
    rw [List.drop_eq_nil_of_le (by omega : z.cps.toList.length ≤ z.length), List.drop_eq_nil_of_le (by omega : z.cps.toList.length ≤ i * k), List.take_nil, List.take_nil]
theorem chunks_flat (l : List Nat) (k : Nat) : ∀ m : Nat, ((List.range m).map fun i => (l.drop (i * k)).take k).flatten = l.take (m * k)
  | 0 => by simp
  | m + 1 => by
    rw [List.range_succ, List.map_append, List.flatten_append, chunks_flat l k m]
    simp only [List.map_cons, List.map_nil, List.flatten_cons, List.flatten_nil, List.append_nil]
    rw [← List.take_add, Nat.succ_mul]
theorem joinL_nil : ∀ ys : List (List Nat), TL.joinL [] ys = ys.flatten
  | [] => rfl
  | [p] => by simp [TL.joinL]
  | p :: q :: r => by
    show p ++ ([] ++ TL.joinL [] (q :: r)) = _
    rw [List.nil_append, joinL_nil (q :: r)]
    rfl
theorem str_ext {a b : Str} (h : a.cps.toList = b.cps.toList) : a = b := by
  cases a; cases b
  simp at h
  rw [h]
theorem chN_ge {z : Str} {n : Int} (hn : 1 ≤ n) (hz : 0 < z.length) : z.length ≤ chN z n * n.toNat ∧ 1 ≤ chN z n ∧ chN z n ≤ z.length := by
  have h0 : Builtin.Range.rangeSize 0 z.length n = ((z.length : Int) + n - 1) / n := PyProof.Rows.rangeSize_pos hn (by omega)
  have h1 := Int.mul_ediv_add_emod ((z.length : Int) + n - 1) n
  have h2 := Int.emod_nonneg ((z.length : Int) + n - 1) (show n ≠ 0 by omega)
  have h3 := Int.emod_lt_of_pos ((z.length : Int) + n - 1) (show 0 < n by omega)
  have h4 : 1 ≤ ((z.length : Int) + n - 1) / n := Int.le_ediv_of_mul_le (by omega) (by omega)
  have h5 : 0 ≤ ((z.length : Int) - 1) * (n - 1) := Int.mul_nonneg (by omega) (by omega)
  have h6 : ((z.length : Int) - 1) * (n - 1) = (z.length : Int) * n - z.length - n + 1 := by
    rw [Int.sub_mul, Int.mul_sub, Int.mul_sub]; omega
  have h7 : ((z.length : Int) + n - 1) / n ≤ z.length := by
    refine Int.ediv_le_of_le_mul (by omega) ?_
    omega
  unfold chN
  rw [h0]
  generalize ((z.length : Int) + n - 1) / n = q at *
  obtain ⟨k, rfl⟩ : ∃ k : Nat, n = (k : Int) := ⟨n.toNat, by omega⟩
  obtain ⟨a, rfl⟩ : ∃ a : Nat, q = (a : Int) := ⟨q.toNat, by omega⟩
  refine ⟨?_, by omega, by omega⟩
  rw [Int.toNat_natCast, Int.toNat_natCast]
  have h8 : ((a * k : Nat) : Int) = (k : Int) * (a : Int) := by rw [Int.natCast_mul, Int.mul_comm]
  omega
theorem chunks_join {z : Str} {n : Int} (hn : 1 ≤ n) (hz : 0 < z.length) : Txt.join Str.empty (chunks z n) = z := by
  obtain ⟨k, rfl⟩ : ∃ k : Nat, n = (k : Int) := ⟨n.toNat, by omega⟩
  have e : (chunks z (k : Int)).map TL.tl = (List.range (chN z k)).map fun i => (z.cps.toList.drop (i * k)).take k := by
    unfold chunks
    rw [List.map_map]
    exact List.map_congr_left fun i _ => chunk_list z k i (by omega)
  refine str_ext ?_
  have h1 : TL.tl (Txt.join Str.empty (chunks z (k : Int))) = TL.tl z := by
    rw [TL.join_eq, TL.tl_join, e]
    show TL.joinL [] _ = _
    rw [joinL_nil, chunks_flat]
    have := (chN_ge hn hz).1
    exact List.take_of_length_le (by rw [Array.length_toList]; exact this)
  exact h1
theorem chunks_len {z : Str} {n : Int} : (chunks z n).length = chN z n := by unfold chunks; rw [List.length_map, List.length_range]
theorem chunks_small {z : Str} {n : Int} : ∀ x ∈ chunks z n, x.length ≤ z.length := by
  intro x hx
  unfold chunks at hx
  obtain ⟨i, _, rfl⟩ := List.mem_map.mp hx
  exact cutS_length _ _ _
end Rel
namespace Rel
theorem perm_erase {α : Type} : ∀ {l : List α} {k : Nat} (h : k < l.length), (l[k] :: l.eraseIdx k).Perm l
  | x :: l, 0, _ => by simp
  | x :: l, k + 1, h => by
    have h' : k < l.length := by simpa using h
    have := perm_erase h'
    simp only [List.getElem_cons_succ, List.eraseIdx_cons_succ]
    exact (List.Perm.swap _ _ _).trans (this.cons x)
end Rel
namespace Rel
open PySem PySem.Spec PyProof.Rows L2 Evl
theorem all_list {z : Str} {p : Nat → Bool} : z.cps.all p = z.cps.toList.all p := by rw [← Array.all_toList]
theorem chunks_all {z : Str} {n : Int} {p : Nat → Bool} (h : z.cps.all p = true) : ∀ x ∈ chunks z n, x.cps.all p = true := by
  intro x hx
  unfold chunks at hx
  obtain ⟨i, _, rfl⟩ := List.mem_map.mp hx
  rw [all_list] at h ⊢
  rw [List.all_eq_true] at h ⊢
  intro c hc
  refine h c ?_
  exact List.mem_of_mem_drop (List.mem_of_mem_take hc)
theorem ofString_all (s : String) : (Str.ofString s).cps.all (· < 0x110000) = true := by
  rw [PySem.Str.ofString_eq_toList, all_list]
  rw [List.all_eq_true]
  intro c hc
  obtain ⟨ch, _, rfl⟩ := List.mem_map.mp (by simpa using hc)
  have h := ch.valid
  rw [decide_eq_true_eq]
  have h2 : ch.toNat = ch.val.toNat := rfl
  rcases h with h | h
  · have h' : ch.val.toNat < 0xd800 := h
    show ch.val.toNat < 0x110000
    omega
  · exact h.2
end Rel
end
section
/-! the protocol, in plain Lean: hosts as a function of their place -/
namespace Rel
open PySem PySem.Spec PyProof.Rows L2 Evl
theorem ph1 : ¬ (("away" : Str) = "given") := by decide +kernel
theorem ph2 : ¬ (("away" : Str) = "runs") := by decide +kernel
theorem ph3 : ¬ (("away" : Str) = "frozen") := by decide +kernel
theorem ph4 : ¬ (("given" : Str) = "away") := by decide +kernel
theorem ph5 : ¬ (("given" : Str) = "runs") := by decide +kernel
theorem ph6 : ¬ (("given" : Str) = "frozen") := by decide +kernel
theorem ph7 : ¬ (("runs" : Str) = "away") := by decide +kernel
theorem ph8 : ¬ (("runs" : Str) = "given") := by decide +kernel
theorem ph9 : ¬ (("runs" : Str) = "frozen") := by decide +kernel
theorem ph10 : ¬ (("frozen" : Str) = "away") := by decide +kernel
theorem ph11 : ¬ (("frozen" : Str) = "given") := by decide +kernel
theorem ph12 : ¬ (("frozen" : Str) = "runs") := by decide +kernel
/-! ### one host -/
section
variable {s : HostS} {snd h n i m : Int} {z : Str}
theorem tp_done (hd : h < s.hop ∨ (s.hop = h ∧ s.frm = none)) : s.takePiece snd h n i m z = s := by
  unfold HostS.takePiece
  have c1 : ¬ (s.phase = "given" ∧ s.hop + 1 < h) := by rintro ⟨_, q⟩; omega
  have c2 : ¬ s.phase = "away" ∨ h < s.hop ∨ (h = s.hop ∧ s.frm = none) := by
    rcases hd with q | ⟨q, r⟩
    · exact .inr (.inl q)
    · exact .inr (.inr ⟨q.symm, r⟩)
  rw [if_neg c1]
  exact if_pos c2
theorem tp_runs (hp : s.phase = "runs") : s.takePiece snd h n i m z = s := by
  unfold HostS.takePiece
  have c1 : ¬ (s.phase = "given" ∧ s.hop + 1 < h) := by rw [hp]; exact fun q => ph8 q.1
  have c2 : ¬ s.phase = "away" ∨ h < s.hop ∨ (h = s.hop ∧ s.frm = none) := by rw [hp]; exact .inl ph7
  rw [if_neg c1]
  exact if_pos c2
theorem tp_fresh {s1 : HostS} (hs : (if s.phase = "given" ∧ s.hop + 1 < h then s.left else s) = s1) (hp : s1.phase = "away") (hh : s1.hop < h) : s.takePiece snd h n i m z = { s1 with hop := h, tri := n, frm := some snd, taken := [(i, z)], many := m } := by
  unfold HostS.takePiece
  rw [hs]
  dsimp only
  rw [if_neg (by rintro (q | q | ⟨q, _⟩); exact q hp; omega; omega), if_neg (by rintro ⟨q, _⟩; omega)]
  rw [if_pos (show ¬ (h = s1.hop ∧ n = s1.tri ∧ s1.frm = some snd) by rintro ⟨q, _⟩; omega)]
  rw [if_pos ⟨rfl, rfl⟩]
  rfl
theorem tp_away (hp : s.phase = "away") (hh : s.hop < h) : s.takePiece snd h n i m z = { s with hop := h, tri := n, frm := some snd, taken := [(i, z)], many := m } :=
  tp_fresh (if_neg (by rw [hp]; exact fun q => ph1 q.1)) hp hh
theorem tp_given (hp : s.phase = "given") (hh : s.hop + 1 < h) : s.takePiece snd h n i m z = { s.left with hop := h, tri := n, frm := some snd, taken := [(i, z)], many := m } :=
  tp_fresh (if_pos ⟨hp, hh⟩) rfl (by show s.hop < h; omega)
theorem tp_cur (hp : s.phase = "away") (hh : s.hop = h) (hf : s.frm = some snd) : s.takePiece snd h n i m z =
    if n < s.tri then s else if n = s.tri then (if s.taken.lookup i = none ∧ m = s.many then { s with taken := s.taken ++ [(i, z)] } else s) else { s with hop := h, tri := n, frm := some snd, taken := [(i, z)], many := m } := by
  unfold HostS.takePiece
  rw [if_neg (show ¬ (s.phase = "given" ∧ s.hop + 1 < h) by rw [hp]; exact fun q => ph1 q.1)]
  dsimp only
  rw [if_neg (by rw [hf]; rintro (q | q | ⟨_, q⟩); exact q hp; omega; cases q)]
  by_cases c1 : n < s.tri
  · rw [if_pos ⟨hh.symm, .inl c1⟩, if_pos c1]
  · rw [if_neg (by rintro ⟨_, q | ⟨_, q⟩⟩; exact c1 q; exact q hf), if_neg c1]
    by_cases c2 : n = s.tri
    · rw [if_neg (show ¬ ¬ (h = s.hop ∧ n = s.tri ∧ s.frm = some snd) from fun q => q ⟨hh.symm, c2, hf⟩), if_pos c2]
    · rw [if_pos (show ¬ (h = s.hop ∧ n = s.tri ∧ s.frm = some snd) from fun q => c2 q.2.1), if_neg c2, if_pos ⟨rfl, rfl⟩]
      rfl
theorem tg_no (hd : ¬ (h = s.hop ∧ n = s.tri ∧ s.frm = some snd)) : s.takeGo snd h n = s := by
  unfold HostS.takeGo
  exact if_neg fun q => hd q.2.1
theorem tg_runs (hp : s.phase = "runs") : s.takeGo snd h n = s := by
  unfold HostS.takeGo
  exact if_neg fun q => ph7 (hp.symm.trans q.1)
end
structure Rec where
  snd : Int
  dst : Int
  m : Msg
def upd1 (hs : Nat → HostS) (j : Nat) (s : HostS) : Nat → HostS := fun i => if i = j then s else hs i
theorem upd1_same {hs : Nat → HostS} {j : Nat} {s : HostS} : upd1 hs j s j = s := if_pos rfl
theorem upd1_ne {hs : Nat → HostS} {i j : Nat} {s : HostS} (h : i ≠ j) : upd1 hs j s i = hs i := if_neg h
theorem upd1_id {hs : Nat → HostS} {j : Nat} {s : HostS} (h : s = hs j) : upd1 hs j s = hs := funext fun i => by
  unfold upd1
  split
  · rename_i e; rw [e, h]
  · rfl
/-- who, where to, which hop, which pieces -/
structure Pa where
  N : Nat
  a : Nat
  g : Nat
  nu : Nat → Int
  c : Int
  t : Int
  pcs : List Str
  tx : Str
structure Pa.Good (P : Pa) : Prop where
  a_ : P.a < P.N
  g_ : P.g < P.N
  ag : P.a ≠ P.g
  inj : ∀ i j, i < P.N → j < P.N → P.nu i = P.nu j → i = j
  nn : ∀ i, i < P.N → 0 ≤ P.nu i
  c_ : 0 ≤ P.c
  t_ : 1 ≤ P.t
  n0 : 1 ≤ P.pcs.length
  n1 : P.pcs.length ≤ 1000
  sm : ∀ x ∈ P.pcs, x.length ≤ 1000 ∧ okS x = true
  jn : Txt.join Str.empty P.pcs = P.tx
section
variable (P : Pa) (hs : Nat → HostS)
def Done (d h : Int) : Prop := ∃ j, j < P.N ∧ P.nu j = d ∧ (h < (hs j).hop ∨ ((hs j).hop = h ∧ (hs j).frm = none))
def Run : Prop := (hs P.g).phase = "runs"
def Wh : Prop := (hs P.g).phase = "away" ∧ (hs P.g).frm = some (P.nu P.a) ∧ (hs P.g).hop = P.c + 1 ∧ (hs P.g).tri = P.t ∧ (hs P.g).whole = true
def MOk (r : Rec) : Prop := (∃ i, i < P.N ∧ P.nu i = r.snd) ∧ (∃ j, j < P.N ∧ P.nu j = r.dst) ∧ r.m.ok ∧ match r.m with
  | .piece h tr i m z => Done P hs r.dst h ∨ (h = P.c + 1 ∧ r.snd = P.nu P.a ∧ r.dst = P.nu P.g ∧ tr ≤ P.t ∧ (tr = P.t → m = P.pcs.length ∧ P.pcs[i.toNat]? = some z))
  | .go h tr => Done P hs r.dst h ∨ (h = P.c + 1 ∧ r.snd = P.nu P.a ∧ r.dst = P.nu P.g ∧ tr = P.t ∧ (hs P.a).phase ≠ "frozen")
  | .whole h tr => h ≤ P.c ∨ (h = P.c + 1 ∧ (tr = P.t → (hs P.a).phase = "frozen" → Wh P hs))
  | .going h _ => h ≤ P.c ∨ (h = P.c + 1 ∧ Run P hs)
def F1 (s : HostS) : Prop := (s.phase = "away" ∨ s.phase = "given") ∧ s.frm = none ∧ s.hop ≤ P.c
def F2 (s : HostS) : Prop := s.phase = "away" ∧ s.frm = some (P.nu P.a) ∧ s.hop = P.c + 1 ∧ 1 ≤ s.tri ∧ s.tri ≤ P.t ∧ (s.tri = P.t → s.many = P.pcs.length ∧ ∀ q ∈ s.taken, P.pcs[q.1.toNat]? = some q.2)
def F3 (s : HostS) : Prop := s.phase = "runs" ∧ s.hop = P.c + 1 ∧ s.frm = none ∧ s.text = some P.tx ∧ s.tri = 0
structure Inv : Prop where
  num : ∀ i, i < P.N → (hs i).num = P.nu i ∧ (hs i).Ok ∧ 0 ≤ (hs i).hop
  near : (hs P.a).hop = P.c ∧ (hs P.a).tri = P.t ∧ (hs P.a).frm = none ∧ (((hs P.a).phase = "frozen" ∧ (hs P.a).goal = some (P.nu P.g) ∧ (hs P.a).pieces = P.pcs) ∨ ((hs P.a).phase = "given" ∧ (hs P.a).goal = some (P.nu P.g)) ∨ ((hs P.a).phase = "away" ∧ Run P hs))
  far : F1 P (hs P.g) ∨ F2 P (hs P.g) ∨ F3 P (hs P.g)
  run : Run P hs → (hs P.a).phase ≠ "frozen"
  giv : (hs P.a).phase = "given" → Run P hs ∨ Wh P hs
  oth : ∀ i, i < P.N → i ≠ P.a → i ≠ P.g → (hs i).frm = none ∧ (hs i).hop ≤ P.c ∧ ((hs i).phase = "away" ∨ (hs i).phase = "given")
  gvn : ∀ i, i < P.N → i ≠ P.a → (hs i).phase = "given" → (hs i).hop + 1 ≤ P.c ∧ 1 ≤ (hs i).tri ∧ ∃ d, (hs i).goal = some d ∧ Done P hs d ((hs i).hop + 1)
  came : ∀ i, i < P.N → ∀ S h t, (hs i).came = some (S, h, t) → (∃ j, j < P.N ∧ P.nu j = S) ∧ 1 ≤ h ∧ 1 ≤ t ∧ (h ≤ P.c ∨ (h = P.c + 1 ∧ Run P hs))
end
/-- what holds on -/
structure Mono (P : Pa) (hs hs' : Nat → HostS) : Prop where
  done : ∀ d h, Done P hs d h → Done P hs' d h
  run : Run P hs → Run P hs'
  nf : (hs P.a).phase ≠ "frozen" → (hs' P.a).phase ≠ "frozen"
  wh : Wh P hs → Run P hs' ∨ Wh P hs'
  rnf : Run P hs' → (hs' P.a).phase ≠ "frozen"
theorem Mono.refl {P : Pa} {hs : Nat → HostS} (I : Inv P hs) : Mono P hs hs := ⟨fun _ _ h => h, fun h => h, fun h => h, fun h => .inr h, I.run⟩
theorem Mono.trans {P : Pa} {hs hs' hs'' : Nat → HostS} (a : Mono P hs hs') (b : Mono P hs' hs'') : Mono P hs hs'' :=
  ⟨fun d h q => b.done d h (a.done d h q), fun q => b.run (a.run q), fun q => b.nf (a.nf q), fun q => (a.wh q).elim (fun z => .inl (b.run z)) b.wh, b.rnf⟩
theorem Mono.mok {P : Pa} {hs hs' : Nat → HostS} (M : Mono P hs hs') {r : Rec} (h : MOk P hs r) : MOk P hs' r := by
  obtain ⟨h1, h2, h3, h4⟩ := h
  refine ⟨h1, h2, h3, ?_⟩
  cases hm : r.m with
  | piece h tr i m z =>
    rw [hm] at h4
    exact h4.imp (M.done _ _) id
  | go h tr =>
    rw [hm] at h4
    exact h4.imp (M.done _ _) fun q => ⟨q.1, q.2.1, q.2.2.1, q.2.2.2.1, M.nf q.2.2.2.2⟩
  | whole h tr =>
    rw [hm] at h4
    refine h4.imp id fun q => ⟨q.1, fun ft f => ?_⟩
    by_cases c : (hs P.a).phase = "frozen"
    · rcases M.wh (q.2 ft c) with z | z
      · exact absurd f (M.rnf z)
      · exact z
    · exact absurd f (M.nf c)
  | going h tr =>
    rw [hm] at h4
    exact h4.imp id fun q => ⟨q.1, M.run q.2⟩
theorem done_mono {P : Pa} {hs hs' : Nat → HostS} (hm : ∀ i, i < P.N → (hs i).hop < (hs' i).hop ∨ ((hs i).hop = (hs' i).hop ∧ ((hs i).frm = none → (hs' i).frm = none))) {d h : Int} (q : Done P hs d h) : Done P hs' d h := by
  obtain ⟨j, hj, e, q⟩ := q
  refine ⟨j, hj, e, ?_⟩
  rcases hm j hj with z | ⟨z, w⟩
  · rcases q with q | ⟨q, _⟩ <;> exact .inl (by omega)
  · rcases q with q | ⟨q, r⟩
    · exact .inl (by omega)
    · exact .inr ⟨by omega, w r⟩
end Rel
namespace Rel
open PySem PySem.Spec PyProof.Rows L2 Evl
section
variable {P : Pa} {hs : Nat → HostS}
theorem run_of {s : HostS} (h : s.phase = "runs") (hg : ∀ q : HostS, q = s → q.phase = "runs") : s.phase = "runs" := h
theorem far_step (G : P.Good) (I : Inv P hs) {s' : HostS} (h1 : s'.num = P.nu P.g ∧ s'.Ok ∧ 0 ≤ s'.hop) (hF : F2 P s' ∨ F3 P s') (hhop : (hs P.g).hop < s'.hop ∨ ((hs P.g).hop = s'.hop ∧ ((hs P.g).frm = none → s'.frm = none)))
    (hrun : Run P hs → s'.phase = "runs") (hnf : s'.phase = "runs" → (hs P.a).phase ≠ "frozen") (hwh : Wh P hs → s'.phase = "runs" ∨ Wh P (upd1 hs P.g s'))
    (hcame : ∀ S h t, s'.came = some (S, h, t) → (∃ j, j < P.N ∧ P.nu j = S) ∧ 1 ≤ h ∧ 1 ≤ t ∧ (h ≤ P.c ∨ (h = P.c + 1 ∧ s'.phase = "runs"))) : Inv P (upd1 hs P.g s') ∧ Mono P hs (upd1 hs P.g s') := by
  have ea : upd1 hs P.g s' P.a = hs P.a := upd1_ne G.ag
  have eg : upd1 hs P.g s' P.g = s' := upd1_same
  have dm : ∀ d h, Done P hs d h → Done P (upd1 hs P.g s') d h := fun d h => done_mono fun i hi => by
    by_cases e : i = P.g
    · subst e; rw [eg]; exact hhop
    · rw [upd1_ne e]; exact .inr ⟨rfl, id⟩
  have hr : Run P (upd1 hs P.g s') ↔ s'.phase = "runs" := by unfold Run; rw [eg]
  have rr : Run P hs → Run P (upd1 hs P.g s') := fun q => hr.mpr (hrun q)
  refine ⟨⟨fun i hi => ?_, ?_, ?_, ?_, ?_, fun i hi na ng => ?_, fun i hi na hp => ?_, fun i hi S h t hc => ?_⟩, ⟨dm, rr, ?_, ?_, ?_⟩⟩
  · by_cases e : i = P.g
    · subst e; rw [eg]; exact h1
    · rw [upd1_ne e]; exact I.num i hi
  · rw [ea]
    obtain ⟨n1, n2, n3, n4⟩ := I.near
    exact ⟨n1, n2, n3, n4.imp id (Or.imp id fun q => ⟨q.1, rr q.2⟩)⟩
  · rw [eg]
    exact .inr hF
  · rw [ea]
    exact fun q => hnf (hr.mp q)
  · rw [ea]
    intro q
    rcases I.giv q with z | z
    · exact .inl (rr z)
    · exact (hwh z).imp hr.mpr id
  · rw [upd1_ne ng]
    exact I.oth i hi na ng
  · by_cases e : i = P.g
    · subst e
      rw [eg] at hp
      exfalso
      rcases hF with f | f
      · exact ph1 (f.1.symm.trans hp)
      · exact ph8 (f.1.symm.trans hp)
    · rw [upd1_ne e] at hp ⊢
      obtain ⟨g1, g2, d, g3, g4⟩ := I.gvn i hi na hp
      exact ⟨g1, g2, d, g3, dm _ _ g4⟩
  · by_cases e : i = P.g
    · subst e
      rw [eg] at hc
      obtain ⟨c1, c2, c3, c4⟩ := hcame S h t hc
      exact ⟨c1, c2, c3, c4.imp id fun q => ⟨q.1, hr.mpr q.2⟩⟩
    · rw [upd1_ne e] at hc
      obtain ⟨c1, c2, c3, c4⟩ := I.came i hi S h t hc
      exact ⟨c1, c2, c3, c4.imp id fun q => ⟨q.1, rr q.2⟩⟩
  · rw [ea]; exact id
  · exact fun q => (hwh q).imp hr.mpr id
  · rw [ea]
    exact fun q => hnf (hr.mp q)
/-- a host not the near one leaves -/
theorem oth_step (G : P.Good) (I : Inv P hs) {j : Nat} (hj : j < P.N) (na : j ≠ P.a) (hp : (hs j).phase = "given") : Inv P (upd1 hs j (hs j).left) ∧ Mono P hs (upd1 hs j (hs j).left) := by
  have ea : upd1 hs j (hs j).left P.a = hs P.a := upd1_ne (Ne.symm na)
  have ej : upd1 hs j (hs j).left j = (hs j).left := upd1_same
  have dm : ∀ d h, Done P hs d h → Done P (upd1 hs j (hs j).left) d h := fun d h => done_mono fun i hi => by
    by_cases e : i = j
    · subst e; rw [ej]; exact .inr ⟨rfl, id⟩
    · rw [upd1_ne e]; exact .inr ⟨rfl, id⟩
  have nr : ¬ (j = P.g ∧ Run P hs) := by rintro ⟨rfl, q⟩; exact ph8 (q.symm.trans hp)
  have rr : Run P (upd1 hs j (hs j).left) ↔ Run P hs := by
    by_cases e : P.g = j
    · subst e
      refine ⟨fun q => ?_, fun q => absurd ⟨rfl, q⟩ nr⟩
      unfold Run at q
      rw [ej] at q
      exact absurd q ph2
    · unfold Run; rw [upd1_ne e]
  have ww : Wh P hs → Wh P (upd1 hs j (hs j).left) := fun q => by
    by_cases e : P.g = j
    · subst e
      exact absurd (q.1.symm.trans hp) ph1
    · unfold Wh at q ⊢; rw [upd1_ne e]; exact q
  refine ⟨⟨fun i hi => ?_, ?_, ?_, ?_, ?_, fun i hi na' ng => ?_, fun i hi na' hp' => ?_, fun i hi S h t hc => ?_⟩, ⟨dm, rr.mpr, ?_, fun q => .inr (ww q), ?_⟩⟩
  · by_cases e : i = j
    · subst e; rw [ej]
      obtain ⟨n1, n2, n3⟩ := I.num i hi
      exact ⟨n1, ⟨n2.keys, n2.range, n2.small.1, n2.small.2.1, Nat.zero_le _⟩, n3⟩
    · rw [upd1_ne e]; exact I.num i hi
  · rw [ea]
    obtain ⟨n1, n2, n3, n4⟩ := I.near
    exact ⟨n1, n2, n3, n4.imp id (Or.imp id fun q => ⟨q.1, rr.mpr q.2⟩)⟩
  · by_cases e : P.g = j
    · subst e
      rw [ej]
      refine .inl ?_
      rcases I.far with f | f | f
      · exact ⟨.inl rfl, f.2.1, f.2.2⟩
      · exact absurd (f.1.symm.trans hp) ph1
      · exact absurd (f.1.symm.trans hp) ph8
    · rw [upd1_ne e]; exact I.far
  · rw [ea]
    exact fun q => I.run (rr.mp q)
  · rw [ea]
    exact fun q => (I.giv q).imp rr.mpr ww
  · by_cases e : i = j
    · subst e; rw [ej]
      obtain ⟨o1, o2, o3⟩ := I.oth i hi na' ng
      exact ⟨o1, o2, .inl rfl⟩
    · rw [upd1_ne e]; exact I.oth i hi na' ng
  · by_cases e : i = j
    · subst e; rw [ej] at hp'
      exact absurd hp' ph1
    · rw [upd1_ne e] at hp' ⊢
      obtain ⟨g1, g2, d, g3, g4⟩ := I.gvn i hi na' hp'
      exact ⟨g1, g2, d, g3, dm _ _ g4⟩
  · have hc' : (hs i).came = some (S, h, t) := by
      by_cases e : i = j
      · subst e; rw [ej] at hc; exact hc
      · rw [upd1_ne e] at hc; exact hc
    obtain ⟨c1, c2, c3, c4⟩ := I.came i hi S h t hc'
    exact ⟨c1, c2, c3, c4.imp id fun q => ⟨q.1, rr.mpr q.2⟩⟩
  · rw [ea]; exact id
  · rw [ea]; exact fun q => I.run (rr.mp q)
/-- the near host, frozen, is told that the pieces are there; or leaves when the far one runs -/
theorem near_step (G : P.Good) (I : Inv P hs) {s' : HostS} (hs' : ((hs P.a).phase = "frozen" ∧ Wh P hs ∧ s' = { hs P.a with phase := "given", text := none }) ∨ ((hs P.a).phase = "given" ∧ Run P hs ∧ s' = (hs P.a).left)) :
    Inv P (upd1 hs P.a s') ∧ Mono P hs (upd1 hs P.a s') := by
  have ea : upd1 hs P.a s' P.a = s' := upd1_same
  have eg : upd1 hs P.a s' P.g = hs P.g := upd1_ne (Ne.symm G.ag)
  have hh : s'.hop = (hs P.a).hop ∧ s'.frm = (hs P.a).frm ∧ s'.num = (hs P.a).num ∧ s'.tri = (hs P.a).tri ∧ s'.came = (hs P.a).came ∧ s'.taken = (hs P.a).taken ∧ s'.many = (hs P.a).many ∧ s'.pieces.length ≤ (hs P.a).pieces.length ∧ s'.phase ≠ "frozen" := by
    rcases hs' with ⟨_, _, rfl⟩ | ⟨_, _, rfl⟩
    · exact ⟨rfl, rfl, rfl, rfl, rfl, rfl, rfl, Nat.le_refl _, ph6⟩
    · exact ⟨rfl, rfl, rfl, rfl, rfl, rfl, rfl, Nat.zero_le _, ph3⟩
  obtain ⟨k1, k2, k3, k4, k5, k6, k7, k8, k9⟩ := hh
  have dm : ∀ d h, Done P hs d h → Done P (upd1 hs P.a s') d h := fun d h => done_mono fun i hi => by
    by_cases e : i = P.a
    · subst e; rw [ea, k1, k2]; exact .inr ⟨rfl, id⟩
    · rw [upd1_ne e]; exact .inr ⟨rfl, id⟩
  have rr : Run P (upd1 hs P.a s') ↔ Run P hs := by unfold Run; rw [eg]
  have ww : Wh P (upd1 hs P.a s') ↔ Wh P hs := by unfold Wh; rw [eg]
  refine ⟨⟨fun i hi => ?_, ?_, ?_, ?_, ?_, fun i hi na' ng => ?_, fun i hi na' hp' => ?_, fun i hi S h t hc => ?_⟩, ⟨dm, rr.mpr, ?_, fun q => .inr (ww.mpr q), ?_⟩⟩
  · by_cases e : i = P.a
    · subst e; rw [ea]
      obtain ⟨n1, n2, n3⟩ := I.num _ hi
      refine ⟨k3.trans n1, ⟨?_, ?_, ?_, ?_, ?_⟩, by rw [k1]; exact n3⟩
      · rw [k6]; exact n2.keys
      · rw [k6, k7]; exact n2.range
      · rw [k7]; exact n2.small.1
      · rw [k6]; exact n2.small.2.1
      · exact Nat.le_trans k8 n2.small.2.2
    · rw [upd1_ne e]; exact I.num i hi
  · rw [ea, k1, k2, k4]
    obtain ⟨n1, n2, n3, n4⟩ := I.near
    refine ⟨n1, n2, n3, ?_⟩
    rcases hs' with ⟨q1, q2, rfl⟩ | ⟨q1, q2, rfl⟩
    · refine .inr (.inl ⟨rfl, ?_⟩)
      rcases n4 with z | z | z
      · exact z.2.1
      · exact z.2
      · exact absurd (z.1.symm.trans q1) ph3
    · exact .inr (.inr ⟨rfl, rr.mpr q2⟩)
  · rw [eg]; exact I.far
  · rw [ea]; exact fun _ => k9
  · rw [ea]
    intro _
    rcases hs' with ⟨q1, q2, rfl⟩ | ⟨q1, q2, rfl⟩
    · exact .inr (ww.mpr q2)
    · exact .inl (rr.mpr q2)
  · rw [upd1_ne na']; exact I.oth i hi na' ng
  · rw [upd1_ne na'] at hp' ⊢
    obtain ⟨g1, g2, d, g3, g4⟩ := I.gvn i hi na' hp'
    exact ⟨g1, g2, d, g3, dm _ _ g4⟩
  · have hc' : (hs i).came = some (S, h, t) := by
      by_cases e : i = P.a
      · subst e; rw [ea, k5] at hc; exact hc
      · rw [upd1_ne e] at hc; exact hc
    obtain ⟨c1, c2, c3, c4⟩ := I.came i hi S h t hc'
    exact ⟨c1, c2, c3, c4.imp id fun q => ⟨q.1, rr.mpr q.2⟩⟩
  · rw [ea]; exact fun _ => k9
  · rw [ea]; exact fun _ => k9
end
end Rel
namespace Rel
open PySem PySem.Spec PyProof.Rows L2 Evl
def GotP (P : Pa) (hs : Nat → HostS) (i : Int) : Prop := Run P hs ∨ ((hs P.g).frm = some (P.nu P.a) ∧ (hs P.g).tri = P.t ∧ (hs P.g).taken.lookup i ≠ none)
def Got (P : Pa) (hs : Nat → HostS) (r : Rec) : Prop := match r.m with
  | .piece h tr i _ _ => h = P.c + 1 → tr = P.t → GotP P hs i
  | .go h tr => h = P.c + 1 → tr = P.t → Run P hs
  | .whole h tr => h = P.c + 1 → tr = P.t → r.snd = P.nu P.g → r.dst = P.nu P.a → (hs P.a).phase ≠ "frozen"
  | .going _ _ => True
/-- what holds on, with the pieces got -/
structure Mono2 (P : Pa) (hs hs' : Nat → HostS) : Prop where
  mo : Mono P hs hs'
  gp : ∀ i, GotP P hs i → GotP P hs' i
theorem Mono2.got {P : Pa} {hs hs' : Nat → HostS} (M : Mono2 P hs hs') {r : Rec} (h : Got P hs r) : Got P hs' r := by
  unfold Got at h ⊢
  cases hm : r.m with
  | piece a b c d e => rw [hm] at h; exact fun x y => M.gp _ (h x y)
  | go a b => rw [hm] at h; exact fun x y => M.mo.run (h x y)
  | whole a b => rw [hm] at h; exact fun x y z w => M.mo.nf (h x y z w)
  | going a b => trivial
theorem Mono2.trans {P : Pa} {hs hs' hs'' : Nat → HostS} (a : Mono2 P hs hs') (b : Mono2 P hs' hs'') : Mono2 P hs hs'' := ⟨a.mo.trans b.mo, fun i q => b.gp i (a.gp i q)⟩
section
variable {P : Pa} {hs : Nat → HostS}
theorem F1.nrun {s : HostS} (f : F1 P s) : ¬ s.phase = "runs" := by
  rcases f.1 with q | q
  · rw [q]; exact ph2
  · rw [q]; exact ph5
theorem big_run (G : P.Good) (I : Inv P hs) {d : Int} (h : Done P hs d (P.c + 1)) : Run P hs := by
  obtain ⟨j, hj, e, q⟩ := h
  by_cases ja : j = P.a
  · subst ja
    have := I.near.1
    rcases q with q | ⟨q, _⟩ <;> omega
  · by_cases jg : j = P.g
    · subst jg
      rcases I.far with f | f | f
      · have := f.2.2; rcases q with q | ⟨q, _⟩ <;> omega
      · have h1 := f.2.2.1
        rcases q with q | ⟨_, q⟩
        · omega
        · rw [f.2.1] at q; cases q
      · exact f.1
    · have := (I.oth j hj ja jg).2.1
      rcases q with q | ⟨q, _⟩ <;> omega
theorem joined_eq (G : P.Good) {s : HostS} (f : F2 P s) (ho : s.Ok) (ht : s.tri = P.t) (hw : s.whole = true) : s.joined = P.tx := by
  obtain ⟨m1, m2⟩ := f.2.2.2.2.2 ht
  have hl : (s.taken.length : Int) = s.many := by
    unfold HostS.whole at hw
    simp only [Bool.and_eq_true, decide_eq_true_eq] at hw
    exact hw.2.2
  rw [← G.jn]
  unfold HostS.joined
  have e : (List.range s.many.toNat).map (fun (i : Nat) => (s.taken.lookup (i : Int)).getD Str.empty) = P.pcs := by
    refine List.ext_getElem? fun i => ?_
    by_cases hi : i < P.pcs.length
    · obtain ⟨z, hz, _⟩ := ho.all hl i (by omega)
      have hm : ((i : Int), z) ∈ s.taken := by
        have h1 : (i : Int) ∈ s.taken.map (·.1) := by
          by_cases q : (i : Int) ∈ s.taken.map (·.1)
          · exact q
          · rw [lookup_none.mpr q] at hz; cases hz
        obtain ⟨z', h2, h3⟩ := lookup_some h1
        rw [hz] at h2
        cases h2
        exact h3
      have := m2 _ hm
      rw [show ((i : Int)).toNat = i from Int.toNat_natCast i] at this
      rw [this, List.getElem?_map, List.getElem?_range (by omega : i < s.many.toNat)]
      show some ((s.taken.lookup (i : Int)).getD Str.empty) = some z
      rw [hz]
      rfl
    · rw [List.getElem?_eq_none (by omega : P.pcs.length ≤ i), List.getElem?_eq_none (by rw [List.length_map, List.length_range]; omega)]
  rw [e]
theorem step (G : P.Good) (I : Inv P hs) {r : Rec} (R : MOk P hs r) {j : Nat} (hj : j < P.N) (e : P.nu j = r.dst) :
    Inv P (upd1 hs j ((hs j).receive r.snd r.m)) ∧ Mono2 P hs (upd1 hs j ((hs j).receive r.snd r.m)) ∧ Got P (upd1 hs j ((hs j).receive r.snd r.m)) r := by
  obtain ⟨snd, dst, m⟩ := r
  obtain ⟨⟨is, his, es⟩, _, hok, hR⟩ := R
  dsimp only at e es hok hR ⊢
  subst e
  have same : ∀ s', s' = hs j → (Got P hs ⟨snd, P.nu j, m⟩) → Inv P (upd1 hs j s') ∧ Mono2 P hs (upd1 hs j s') ∧ Got P (upd1 hs j s') ⟨snd, P.nu j, m⟩ := fun s' h g => by
    rw [upd1_id h]
    exact ⟨I, ⟨Mono.refl I, fun _ q => q⟩, g⟩
  cases m with
  | piece h tr i m z =>
    obtain ⟨o1, o2, o3, o4, o5, o6⟩ := hok
    show Inv P (upd1 hs j ((hs j).takePiece snd h tr i m z)) ∧ Mono2 P hs (upd1 hs j ((hs j).takePiece snd h tr i m z)) ∧ Got P (upd1 hs j ((hs j).takePiece snd h tr i m z)) _
    rcases hR with hd | ⟨rfl, rfl, eg, htr, hpc⟩
    · refine same _ (tp_done ?_) fun h1 _ => .inl (big_run G I (h1 ▸ hd))
      obtain ⟨j', hj', e', q⟩ := hd
      have := G.inj _ _ hj' hj e'
      subst this
      exact q
    · have := G.inj _ _ hj G.g_ eg
      subst this
      obtain ⟨n1, n2, n3⟩ := I.num _ hj
      have hcm : ∀ S h t, (hs P.g).came = some (S, h, t) → (∃ j, j < P.N ∧ P.nu j = S) ∧ 1 ≤ h ∧ 1 ≤ t ∧ (h ≤ P.c ∨ (h = P.c + 1 ∧ Run P hs)) := I.came _ hj
      -- all anew
      have anew : ∀ s1 : HostS, ¬ Run P hs → ((hs P.g).frm = some (P.nu P.a) → (hs P.g).tri < tr) → (hs P.g).hop ≤ P.c + 1 → ((hs P.g).hop = P.c + 1 → (hs P.g).frm ≠ none) → s1.num = P.nu P.g → s1.phase = "away" → s1.came = (hs P.g).came → s1.pieces.length ≤ 1000 →
          Inv P (upd1 hs P.g { s1 with hop := P.c + 1, tri := tr, frm := some (P.nu P.a), taken := [(i, z)], many := m }) ∧ Mono2 P hs (upd1 hs P.g { s1 with hop := P.c + 1, tri := tr, frm := some (P.nu P.a), taken := [(i, z)], many := m }) ∧
          Got P (upd1 hs P.g { s1 with hop := P.c + 1, tri := tr, frm := some (P.nu P.a), taken := [(i, z)], many := m }) ⟨P.nu P.a, P.nu P.g, .piece (P.c + 1) tr i m z⟩ := by
        intro s1 nr hf hh hh2 u1 u2 u3 u4
        have c0 := G.c_
        have st := far_step G I (s' := { s1 with hop := P.c + 1, tri := tr, frm := some (P.nu P.a), taken := [(i, z)], many := m }) ⟨u1, ⟨by simp, fun q hq => ?_, o5, fun q hq => ?_, u4⟩, by show 0 ≤ P.c + 1; omega⟩
          (.inl ⟨u2, rfl, rfl, o2, htr, fun ht => ⟨(hpc ht).1, fun q hq => ?_⟩⟩) ?_ (fun q => absurd q nr) (fun q => absurd (u2.symm.trans q) ph2) (fun w => ?_) (fun S h t hc => ?_)
        · refine ⟨st.1, ⟨st.2, fun i' q => ?_⟩, fun _ ht => .inr ?_⟩
          · rcases q with q | ⟨q1, q2, _⟩
            · exact absurd q nr
            · have := hf q1
              omega
          · rw [upd1_same]
            refine ⟨rfl, ht, ?_⟩
            show ([(i, z)] : List (Int × Str)).lookup i ≠ none
            rw [List.lookup_cons, beq_self_eq_true]
            exact fun q => by cases q
        · have : q = (i, z) := by simpa using hq
          subst this
          exact ⟨o3, o4⟩
        · have : q = (i, z) := by simpa using hq
          subst this
          exact o6.1
        · have : q = (i, z) := by simpa using hq
          subst this
          exact (hpc ht).2
        · by_cases c : (hs P.g).hop = P.c + 1
          · exact .inr ⟨c, fun q => absurd q (hh2 c)⟩
          · exact .inl (by show (hs P.g).hop < P.c + 1; omega)
        · have := hf w.2.1
          have := w.2.2.2.1
          omega
        · obtain ⟨c1, c2, c3, c4⟩ := hcm S h t (u3.symm.trans hc)
          exact ⟨c1, c2, c3, c4.imp id fun q => absurd q.2 nr⟩
      rcases I.far with f | f | f
      · have nr : ¬ Run P hs := f.nrun
        have hfr : (hs P.g).frm = some (P.nu P.a) → (hs P.g).tri < tr := fun q => by rw [f.2.1] at q; cases q
        have hle := f.2.2
        rcases f.1 with p | p
        · rw [tp_away p (by omega)]
          exact anew _ nr hfr (by omega) (fun q => by omega) n1 p rfl n2.small.2.2
        · have hg := I.gvn _ hj (Ne.symm G.ag) p
          rw [tp_given p (by omega)]
          exact anew _ nr hfr (by omega) (fun q => by omega) n1 rfl rfl (Nat.zero_le _)
      · have nr : ¬ Run P hs := by unfold Run; rw [f.1]; exact ph2
        rw [tp_cur f.1 f.2.2.1 f.2.1]
        by_cases c1 : tr < (hs P.g).tri
        · rw [if_pos c1]
          refine same _ rfl fun _ ht => ?_
          have := f.2.2.2.2.1
          omega
        rw [if_neg c1]
        by_cases c2 : tr = (hs P.g).tri
        · rw [if_pos c2]
          by_cases c3 : (hs P.g).taken.lookup i = none ∧ m = (hs P.g).many
          · rw [if_pos c3]
            have nk := lookup_none.mp c3.1
            have st := far_step G I (s' := { hs P.g with taken := (hs P.g).taken ++ [(i, z)] }) ⟨n1, ⟨?_, fun q hq => ?_, n2.small.1, fun q hq => ?_, n2.small.2.2⟩, n3⟩
              (.inl ⟨f.1, f.2.1, f.2.2.1, f.2.2.2.1, f.2.2.2.2.1, fun ht => ⟨(f.2.2.2.2.2 ht).1, fun q hq => ?_⟩⟩) (.inr ⟨rfl, id⟩) (fun q => absurd q nr) (fun q => absurd (f.1.symm.trans q) ph2) (fun w => ?_) (fun S h t hc => ?_)
            · refine ⟨st.1, ⟨st.2, fun i' q => ?_⟩, fun _ ht => .inr ?_⟩
              · rcases q with q | ⟨q1, q2, q3⟩
                · exact absurd q nr
                · refine .inr ?_
                  rw [upd1_same]
                  refine ⟨q1, q2, fun q => ?_⟩
                  have h1 : i' ∉ ((hs P.g).taken ++ [(i, z)]).map (·.1) := lookup_none.mp q
                  rw [List.map_append, List.mem_append] at h1
                  exact q3 (lookup_none.mpr fun x => h1 (.inl x))
              · rw [upd1_same]
                refine ⟨f.2.1, c2.symm.trans ht, fun q => ?_⟩
                have h1 : i ∉ ((hs P.g).taken ++ [(i, z)]).map (·.1) := lookup_none.mp q
                exact h1 (by simp)
            · rw [List.map_append, List.nodup_append]
              refine ⟨n2.keys, by simp, fun a ha b hb => ?_⟩
              have : b = i := by simpa using hb
              subst this
              rintro rfl
              exact nk ha
            · rcases List.mem_append.mp hq with hq | hq
              · exact n2.range q hq
              · have : q = (i, z) := by simpa using hq
                subst this
                exact ⟨o3, c3.2 ▸ o4⟩
            · rcases List.mem_append.mp hq with hq | hq
              · exact n2.small.2.1 q hq
              · have : q = (i, z) := by simpa using hq
                subst this
                exact o6.1
            · rcases List.mem_append.mp hq with hq | hq
              · exact (f.2.2.2.2.2 ht).2 q hq
              · have : q = (i, z) := by simpa using hq
                subst this
                exact (hpc (c2.trans ht)).2
            · exfalso
              have hw := w.2.2.2.2
              unfold HostS.whole at hw
              simp only [Bool.and_eq_true, decide_eq_true_eq] at hw
              obtain ⟨k, rfl⟩ : ∃ k : Nat, i = (k : Int) := ⟨i.toNat, by omega⟩
              obtain ⟨z', hz', _⟩ := n2.all hw.2.2 k (by have := c3.2; omega)
              rw [c3.1] at hz'
              cases hz'
            · obtain ⟨c1, c2, c3, c4⟩ := hcm S h t hc
              exact ⟨c1, c2, c3, c4.imp id fun q => absurd q.2 nr⟩
          · rw [if_neg c3]
            refine same _ rfl fun _ ht => .inr ⟨f.2.1, c2.symm.trans ht, fun q => c3 ⟨q, ?_⟩⟩
            rw [(hpc ht).1, (f.2.2.2.2.2 (c2.symm.trans ht)).1]
        · rw [if_neg c2]
          exact anew _ nr (fun _ => by omega) (by rw [f.2.2.1]; omega) (fun _ q => by rw [f.2.1] at q; cases q) n1 f.1 rfl n2.small.2.2
      · exact same _ (tp_runs f.1) fun _ _ => .inl f.1
  | go h tr =>
    show Inv P (upd1 hs j ((hs j).takeGo snd h tr)) ∧ Mono2 P hs (upd1 hs j ((hs j).takeGo snd h tr)) ∧ Got P (upd1 hs j ((hs j).takeGo snd h tr)) _
    rcases hR with hd | ⟨rfl, rfl, eg, rfl, hnf⟩
    · refine same _ (tg_no ?_) fun h1 _ => big_run G I (h1 ▸ hd)
      obtain ⟨j', hj', e', q⟩ := hd
      have := G.inj _ _ hj' hj e'
      subst this
      rintro ⟨q1, _, q2⟩
      rcases q with q | ⟨_, q⟩
      · omega
      · rw [q] at q2; cases q2
    · have := G.inj _ _ hj G.g_ eg
      subst this
      obtain ⟨n1, n2, n3⟩ := I.num _ hj
      have hrw : Run P hs ∨ Wh P hs := by
        obtain ⟨_, _, _, q | q | q⟩ := I.near
        · exact absurd q.1 hnf
        · exact I.giv q.1
        · exact .inl q.2
      rcases I.far with f | f | f
      · exfalso
        rcases hrw with q | q
        · exact f.nrun q
        · have := q.2.1; rw [f.2.1] at this; cases this
      · have nr : ¬ Run P hs := by unfold Run; rw [f.1]; exact ph2
        have w : Wh P hs := hrw.resolve_left nr
        have hE : (hs P.g).takeGo (P.nu P.a) (P.c + 1) P.t = { hs P.g with text := some (hs P.g).joined, came := some (P.nu P.a, (hs P.g).hop, (hs P.g).tri), frm := none, phase := "runs", tri := 0, taken := [] } := by
          unfold HostS.takeGo
          exact if_pos ⟨f.1, ⟨f.2.2.1.symm, w.2.2.2.1.symm, f.2.1⟩, w.2.2.2.2⟩
        have hj2 := joined_eq G f n2 w.2.2.2.1 w.2.2.2.2
        have c0 := G.c_
        have t0 := G.t_
        have st := far_step G I (s' := { hs P.g with text := some (hs P.g).joined, came := some (P.nu P.a, (hs P.g).hop, (hs P.g).tri), frm := none, phase := "runs", tri := 0, taken := [] }) ⟨n1, ⟨by simp, (fun q hq => by cases hq), n2.small.1, (fun q hq => by cases hq), n2.small.2.2⟩, n3⟩
          (.inr ⟨rfl, f.2.2.1, rfl, congrArg some hj2, rfl⟩) (.inr ⟨rfl, fun _ => rfl⟩) (fun _ => rfl) (fun _ => hnf) (fun _ => .inl rfl) (fun S h t hc => ?_)
        · rw [hE]
          have hr : Run P (upd1 hs P.g { hs P.g with text := some (hs P.g).joined, came := some (P.nu P.a, (hs P.g).hop, (hs P.g).tri), frm := none, phase := "runs", tri := 0, taken := [] }) := by
            unfold Run; rw [upd1_same]
          exact ⟨st.1, ⟨st.2, fun _ _ => .inl hr⟩, fun _ _ => hr⟩
        · have e1 : (P.nu P.a, (hs P.g).hop, (hs P.g).tri) = (S, h, t) := Option.some.inj hc
          have e2 : P.nu P.a = S ∧ (hs P.g).hop = h ∧ (hs P.g).tri = t := by simpa using e1
          obtain ⟨e3, e4, e5⟩ := e2
          have h1 := f.2.2.1
          have h2 := w.2.2.2.1
          exact ⟨⟨P.a, G.a_, e3⟩, by omega, by omega, .inr ⟨by omega, rfl⟩⟩
      · exact same _ (tg_runs f.1) fun _ _ => f.1
  | whole h tr =>
    by_cases c : (hs j).goal = some snd ∧ h = (hs j).hop + 1 ∧ tr = (hs j).tri
    · have hE : (hs j).receive snd (.whole h tr) = (hs j).answer true := by unfold HostS.receive; exact if_pos c
      rw [hE]
      by_cases hf : (hs j).phase = "frozen"
      · have hE2 : (hs j).answer true = { hs j with phase := "given", text := none } := by unfold HostS.answer; rw [if_pos rfl, if_pos hf]
        rw [hE2]
        have ja : j = P.a := by
          by_cases ja : j = P.a
          · exact ja
          · exfalso
            by_cases jg : j = P.g
            · subst jg
              rcases I.far with f | f | f
              · rcases f.1 with q | q
                · exact ph3 (q.symm.trans hf)
                · exact ph6 (q.symm.trans hf)
              · exact ph3 (f.1.symm.trans hf)
              · exact ph9 (f.1.symm.trans hf)
            · rcases (I.oth j hj ja jg).2.2 with q | q
              · exact ph3 (q.symm.trans hf)
              · exact ph6 (q.symm.trans hf)
        subst ja
        have hw : Wh P hs := by
          rcases hR with q | q
          · have := I.near.1
            omega
          · exact q.2 (c.2.2.trans I.near.2.1) hf
        obtain ⟨s1, s2⟩ := near_step G I (.inl ⟨hf, hw, rfl⟩)
        refine ⟨s1, ⟨s2, fun i q => ?_⟩, fun _ _ _ _ => ?_⟩
        · unfold GotP Run at q ⊢
          rw [upd1_ne (Ne.symm G.ag)]
          exact q
        · rw [upd1_same]; exact ph4 ∘ fun q => absurd q ph6
      · have hE2 : (hs j).answer true = hs j := by unfold HostS.answer; rw [if_pos rfl, if_neg hf]
        refine same _ hE2 fun _ _ _ q => ?_
        have := G.inj _ _ hj G.a_ q
        subst this
        exact hf
    · have hE : (hs j).receive snd (.whole h tr) = hs j := by unfold HostS.receive; exact if_neg c
      refine same _ hE fun h1 h2 h3 q hf => c ?_
      dsimp only at h3 q
      have := G.inj _ _ hj G.a_ q
      subst this
      obtain ⟨m1, m2, m3, m4⟩ := I.near
      rcases m4 with z | z | z
      · exact ⟨by rw [z.2.1, h3], by omega, by omega⟩
      · exact absurd (z.1.symm.trans hf) ph6
      · exact absurd (z.1.symm.trans hf) ph3
  | going h tr =>
    by_cases c : (hs j).goal = some snd ∧ h = (hs j).hop + 1 ∧ tr = (hs j).tri
    · have hE : (hs j).receive snd (.going h tr) = (hs j).answer false := by unfold HostS.receive; exact if_pos c
      rw [hE]
      by_cases hf : (hs j).phase = "given"
      · have hE2 : (hs j).answer false = (hs j).left := by unfold HostS.answer; rw [if_neg (by decide), if_pos hf]
        rw [hE2]
        by_cases ja : j = P.a
        · subst ja
          have hr : Run P hs := by
            rcases hR with q | q
            · have := I.near.1
              omega
            · exact q.2
          obtain ⟨s1, s2⟩ := near_step G I (.inr ⟨hf, hr, rfl⟩)
          refine ⟨s1, ⟨s2, fun i q => ?_⟩, trivial⟩
          unfold GotP Run at q ⊢
          rw [upd1_ne (Ne.symm G.ag)]
          exact q
        · obtain ⟨s1, s2⟩ := oth_step G I hj ja hf
          refine ⟨s1, ⟨s2, fun i q => ?_⟩, trivial⟩
          by_cases jg : P.g = j
          · subst jg
            exfalso
            rcases q with q | q
            · exact ph8 (q.symm.trans hf)
            · rcases I.far with f | f | f
              · have := q.1; rw [f.2.1] at this; cases this
              · exact ph1 (f.1.symm.trans hf)
              · exact ph8 (f.1.symm.trans hf)
          · unfold GotP Run at q ⊢
            rw [upd1_ne jg]
            exact q
      · have hE2 : (hs j).answer false = hs j := by unfold HostS.answer; rw [if_neg (by decide), if_neg hf]
        exact same _ hE2 trivial
    · have hE : (hs j).receive snd (.going h tr) = hs j := by unfold HostS.receive; exact if_neg c
      exact same _ hE trivial
end
end Rel

namespace Rel
open PySem PySem.Spec PyProof.Rows L2 Evl
/-! ### what hosts tell, as records -/
def HostS.recs (s : HostS) : List (Int × Msg) :=
  (if s.phase = "frozen" then (List.range s.pieces.length).map fun (i : Nat) => (s.goal.getD 0, Msg.piece (s.hop + 1) s.tri (i : Int) (s.pieces.length : Int) (s.pieces.getD i Str.empty)) else []) ++
  (if s.phase = "given" then [(s.goal.getD 0, Msg.go (s.hop + 1) s.tri)] else []) ++
  (if s.phase = "away" ∧ s.whole = true then [(s.frm.getD 0, Msg.whole s.hop s.tri)] else []) ++
  (match s.came with
    | none => []
    | some c => [(c.1, Msg.going c.2.1 c.2.2)])
def recD (q : Int × Msg) : PyData := .tuple [.int q.1, q.2.d]
theorem msgs_recs {s : HostS} (hg : s.phase = "frozen" ∨ s.phase = "given" → s.goal ≠ none) : s.msgsD = s.recs.map recD := by
  have hw : s.whole = true → s.frm ≠ none := by
    intro h
    unfold HostS.whole at h
    intro q
    rw [q] at h
    simp at h
  have hI : ∀ z : Option Int, z ≠ none → oID z = .int (z.getD 0) := fun z h => by
    cases z with
    | none => exact absurd rfl h
    | some z => rfl
  unfold HostS.msgsD HostS.recs
  rw [List.map_append, List.map_append, List.map_append]
  congr 1
  · congr 1
    · congr 1
      · split
        · rename_i h
          rw [List.map_map, hI _ (hg (.inl h))]
          rfl
        · rfl
      · split
        · rename_i h
          rw [hI _ (hg (.inr h))]
          rfl
        · rfl
    · split
      · rename_i h
        rw [hI _ (hw h.2)]
        rfl
      · rfl
  · cases s.came with
    | none => rfl
    | some c => rfl
theorem recs_len {s : HostS} : s.recs.length ≤ s.pieces.length + 3 := by
  unfold HostS.recs
  rw [List.length_append, List.length_append, List.length_append]
  have h1 : (if s.phase = "frozen" then (List.range s.pieces.length).map fun (i : Nat) => (s.goal.getD 0, Msg.piece (s.hop + 1) s.tri (i : Int) (s.pieces.length : Int) (s.pieces.getD i Str.empty)) else []).length ≤ s.pieces.length := by
    split
    · rw [List.length_map, List.length_range]; exact Nat.le_refl _
    · exact Nat.zero_le _
  have h2 : (if s.phase = "given" then [(s.goal.getD 0, Msg.go (s.hop + 1) s.tri)] else []).length ≤ 1 := by split <;> first | exact Nat.le_refl _ | exact Nat.zero_le _
  have h3 : (if s.phase = "away" ∧ s.whole = true then [(s.frm.getD 0, Msg.whole s.hop s.tri)] else []).length ≤ 1 := by
    split
    · exact Nat.le_refl _
    · exact Nat.zero_le _
  have h4 : (match s.came with | none => [] | some c => [(c.1, Msg.going c.2.1 c.2.2)] : List (Int × Msg)).length ≤ 1 := by
    cases s.came with
    | none => exact Nat.zero_le _
    | some c => exact Nat.le_refl _
  omega
theorem mem_recs {s : HostS} {q : Int × Msg} (h : q ∈ s.recs) : (s.phase = "frozen" ∧ ∃ i : Nat, i < s.pieces.length ∧ q = (s.goal.getD 0, Msg.piece (s.hop + 1) s.tri (i : Int) (s.pieces.length : Int) (s.pieces.getD i Str.empty))) ∨
    (s.phase = "given" ∧ q = (s.goal.getD 0, Msg.go (s.hop + 1) s.tri)) ∨ (s.phase = "away" ∧ s.whole = true ∧ q = (s.frm.getD 0, Msg.whole s.hop s.tri)) ∨ ∃ c, s.came = some c ∧ q = (c.1, Msg.going c.2.1 c.2.2) := by
  unfold HostS.recs at h
  rcases List.mem_append.mp h with h | h
  · rcases List.mem_append.mp h with h | h
    · rcases List.mem_append.mp h with h | h
      · split at h
        · rename_i c
          obtain ⟨i, hi, rfl⟩ := List.mem_map.mp h
          exact .inl ⟨c, i, List.mem_range.mp hi, rfl⟩
        · cases h
      · split at h
        · rename_i c
          exact .inr (.inl ⟨c, by simpa using h⟩)
        · cases h
    · split at h
      · rename_i c
        exact .inr (.inr (.inl ⟨c.1, c.2, by simpa using h⟩))
      · cases h
  · cases hc : s.came with
    | none => rw [hc] at h; cases h
    | some c => rw [hc] at h; exact .inr (.inr (.inr ⟨c, rfl, by simpa using h⟩))
section
variable {P : Pa} {hs : Nat → HostS}
theorem Inv.goal (I : Inv P hs) {i : Nat} (hi : i < P.N) (h : (hs i).phase = "frozen" ∨ (hs i).phase = "given") : (hs i).goal ≠ none := by
  by_cases ia : i = P.a
  · subst ia
    obtain ⟨_, _, _, z | z | z⟩ := I.near
    · rw [z.2.1]; exact fun q => by cases q
    · rw [z.2]; exact fun q => by cases q
    · rcases h with h | h
      · exact absurd (z.1.symm.trans h) ph3
      · exact absurd (z.1.symm.trans h) ph1
  · have hg : (hs i).phase = "given" := by
      rcases h with h | h
      · exfalso
        by_cases ig : i = P.g
        · subst ig
          rcases I.far with f | f | f
          · rcases f.1 with q | q
            · exact ph3 (q.symm.trans h)
            · exact ph6 (q.symm.trans h)
          · exact ph3 (f.1.symm.trans h)
          · exact ph9 (f.1.symm.trans h)
        · rcases (I.oth i hi ia ig).2.2 with q | q
          · exact ph3 (q.symm.trans h)
          · exact ph6 (q.symm.trans h)
      · exact h
    obtain ⟨_, _, d, e, _⟩ := I.gvn i hi ia hg
    rw [e]; exact fun q => by cases q
theorem Inv.mok (G : P.Good) (I : Inv P hs) {i : Nat} (hi : i < P.N) {q : Int × Msg} (hq : q ∈ (hs i).recs) : MOk P hs ⟨P.nu i, q.1, q.2⟩ := by
  have c0 := G.c_
  have t0 := G.t_
  obtain ⟨n1, n2, n3⟩ := I.num i hi
  rcases mem_recs hq with ⟨hf, k, hk, rfl⟩ | ⟨hf, rfl⟩ | ⟨hf, hw, rfl⟩ | ⟨c, hc, rfl⟩
  · have ia : i = P.a := by
      by_cases ia : i = P.a
      · exact ia
      · exfalso
        by_cases ig : i = P.g
        · subst ig
          rcases I.far with f | f | f
          · rcases f.1 with q | q
            · exact ph3 (q.symm.trans hf)
            · exact ph6 (q.symm.trans hf)
          · exact ph3 (f.1.symm.trans hf)
          · exact ph9 (f.1.symm.trans hf)
        · rcases (I.oth i hi ia ig).2.2 with q | q
          · exact ph3 (q.symm.trans hf)
          · exact ph6 (q.symm.trans hf)
    subst ia
    obtain ⟨m1, m2, m3, z | z | z⟩ := I.near
    · obtain ⟨z1, z2, z3⟩ := z
      rw [z2, z3, m1, m2]
      rw [z3] at hk
      refine ⟨⟨_, hi, rfl⟩, ⟨P.g, G.g_, rfl⟩, ⟨by omega, by omega, by omega, by omega, by have := G.n1; omega, ?_⟩, .inr ⟨rfl, rfl, rfl, Int.le_refl _, fun _ => ⟨rfl, ?_⟩⟩⟩
      · rw [List.getD_eq_getElem?_getD, List.getElem?_eq_getElem hk]
        exact G.sm _ (List.getElem_mem hk)
      · rw [Int.toNat_natCast, List.getD_eq_getElem?_getD, List.getElem?_eq_getElem hk]
        rfl
    · exact absurd (z.1.symm.trans hf) ph6
    · exact absurd (z.1.symm.trans hf) ph3
  · by_cases ia : i = P.a
    · subst ia
      obtain ⟨m1, m2, m3, z | z | z⟩ := I.near
      · exact absurd (z.1.symm.trans hf) ph11
      · rw [z.2, m1, m2]
        refine ⟨⟨_, hi, rfl⟩, ⟨P.g, G.g_, rfl⟩, ⟨by omega, by omega⟩, .inr ⟨rfl, rfl, rfl, rfl, ?_⟩⟩
        rw [hf]; exact ph6
      · exact absurd (z.1.symm.trans hf) ph1
    · obtain ⟨g1, g2, d, g3, g4⟩ := I.gvn i hi ia hf
      rw [g3]
      refine ⟨⟨_, hi, rfl⟩, ?_, ⟨by omega, g2⟩, .inl g4⟩
      obtain ⟨j, hj, e, _⟩ := g4
      exact ⟨j, hj, e⟩
  · have hfr : (hs i).frm ≠ none := by
      unfold HostS.whole at hw
      intro q
      rw [q] at hw
      simp at hw
    have ig : i = P.g := by
      by_cases ia : i = P.a
      · subst ia; exact absurd I.near.2.2.1 hfr
      · by_cases ig : i = P.g
        · exact ig
        · exact absurd (I.oth i hi ia ig).1 hfr
    subst ig
    rcases I.far with f | f | f
    · exact absurd f.2.1 hfr
    · rw [f.2.1, f.2.2.1]
      refine ⟨⟨_, hi, rfl⟩, ⟨P.a, G.a_, rfl⟩, ⟨by omega, f.2.2.2.1⟩, .inr ⟨rfl, fun ht _ => ⟨f.1, f.2.1, f.2.2.1, ht, hw⟩⟩⟩
    · exact absurd f.2.2.1 hfr
  · obtain ⟨S, h, t⟩ := c
    obtain ⟨c1, c2, c3, c4⟩ := I.came i hi S h t hc
    exact ⟨⟨_, hi, rfl⟩, c1, ⟨c2, c3⟩, c4⟩
end
end Rel
namespace Rel
open PySem PySem.Spec PyProof.Rows L2 Evl
section
variable {P : Pa} {hs hs' : Nat → HostS}
def S1 (P : Pa) (hs : Nat → HostS) : Prop := Run P hs ∨ (hs P.a).phase ≠ "frozen" ∨ Wh P hs
def S2 (P : Pa) (hs : Nat → HostS) : Prop := Run P hs ∨ (hs P.a).phase ≠ "frozen"
theorem S1.mono (M : Mono P hs hs') (h : S1 P hs) : S1 P hs' := by
  rcases h with h | h | h
  · exact .inl (M.run h)
  · exact .inr (.inl (M.nf h))
  · exact (M.wh h).imp id .inr
theorem S2.mono (M : Mono P hs hs') (h : S2 P hs) : S2 P hs' := h.imp M.run M.nf
/-- a lap in which everything arrives -/
theorem lap_full (G : P.Good) (I : Inv P hs) (I' : Inv P hs') (M : Mono2 P hs hs') (all : ∀ i, i < P.N → ∀ q ∈ (hs i).recs, Got P hs' ⟨P.nu i, q.1, q.2⟩) : S1 P hs' ∧ (S1 P hs → S2 P hs') ∧ (S2 P hs → Run P hs') := by
  refine ⟨?_, fun h => ?_, fun h => ?_⟩
  · by_cases f : (hs P.a).phase = "frozen"
    · obtain ⟨m1, m2, m3, z | z | z⟩ := I.near
      · obtain ⟨_, z2, z3⟩ := z
        have got : ∀ k : Nat, k < P.pcs.length → GotP P hs' (k : Int) := fun k hk => by
          have hq : (P.nu P.g, Msg.piece (P.c + 1) P.t (k : Int) (P.pcs.length : Int) (P.pcs.getD k Str.empty)) ∈ (hs P.a).recs := by
            unfold HostS.recs
            rw [if_pos f, z2, z3, m1, m2]
            exact List.mem_append_left _ (List.mem_append_left _ (List.mem_append_left _ (List.mem_map.mpr ⟨k, List.mem_range.mpr hk, rfl⟩)))
          exact all _ G.a_ _ hq rfl rfl
        by_cases r : Run P hs'
        · exact .inl r
        · refine .inr (.inr ?_)
          have g0 := (got 0 (by have := G.n0; omega)).resolve_left r
          obtain ⟨n1, n2, n3⟩ := I'.num _ G.g_
          rcases I'.far with x | x | x
          · have := g0.1; rw [x.2.1] at this; cases this
          · obtain ⟨y1, y2⟩ := x.2.2.2.2.2 g0.2.1
            refine ⟨x.1, x.2.1, x.2.2.1, g0.2.1, ?_⟩
            have hN0 := G.n0
            have l1 : (List.range P.pcs.length).length ≤ (((hs' P.g).taken.map (·.1)).map Int.toNat).length := by
              refine len_le_of_sub List.nodup_range fun k hk => ?_
              have := ((got k (List.mem_range.mp hk)).resolve_left r).2.2
              have hm : (k : Int) ∈ (hs' P.g).taken.map (·.1) := by
                by_cases q : (k : Int) ∈ (hs' P.g).taken.map (·.1)
                · exact q
                · exact absurd (lookup_none.mpr q) this
              exact List.mem_map.mpr ⟨_, hm, Int.toNat_natCast k⟩
            have l2 : (((hs' P.g).taken.map (·.1)).map Int.toNat).length ≤ (List.range P.pcs.length).length := by
              refine len_le_of_sub ?_ fun x hx => ?_
              · rw [List.Nodup, List.pairwise_map]
                refine List.Pairwise.imp_of_mem ?_ n2.keys
                intro a b ha hb ne e
                obtain ⟨q, hq, rfl⟩ := List.mem_map.mp ha
                obtain ⟨r, hr, rfl⟩ := List.mem_map.mp hb
                have := n2.range q hq
                have := n2.range r hr
                omega
              · obtain ⟨a, ha, rfl⟩ := List.mem_map.mp hx
                obtain ⟨q, hq, rfl⟩ := List.mem_map.mp ha
                have := n2.range q hq
                rw [List.mem_range]
                omega
            rw [List.length_map, List.length_map, List.length_range] at l1 l2
            unfold HostS.whole
            rw [x.2.1]
            simp
            omega
          · have := g0.1; rw [x.2.2.1] at this; cases this
      · exact absurd (z.1.symm.trans f) ph6
      · exact absurd (z.1.symm.trans f) ph3
    · exact .inr (.inl (M.mo.nf f))
  · rcases h with h | h | h
    · exact .inl (M.mo.run h)
    · exact .inr (M.mo.nf h)
    · have hq : (P.nu P.a, Msg.whole (P.c + 1) P.t) ∈ (hs P.g).recs := by
        unfold HostS.recs
        rw [if_pos (show (hs P.g).phase = "away" ∧ (hs P.g).whole = true from ⟨h.1, h.2.2.2.2⟩), h.2.1, h.2.2.1, h.2.2.2.1]
        exact List.mem_append_left _ (List.mem_append_right _ (List.mem_singleton.mpr rfl))
      exact .inr (all _ G.g_ _ hq rfl rfl rfl rfl)
  · rcases h with h | h
    · exact M.mo.run h
    · obtain ⟨m1, m2, m3, z | z | z⟩ := I.near
      · exact absurd z.1 h
      · have hq : (P.nu P.g, Msg.go (P.c + 1) P.t) ∈ (hs P.a).recs := by
          unfold HostS.recs
          rw [if_pos z.1, z.2, m1, m2]
          exact List.mem_append_left _ (List.mem_append_left _ (List.mem_append_right _ (List.mem_singleton.mpr rfl)))
        exact all _ G.a_ _ hq rfl rfl
      · exact M.mo.run z.2
/-! ### between two hops -/
structure HopI (P : Pa) (hs : Nat → HostS) : Prop where
  num : ∀ i, i < P.N → (hs i).num = P.nu i ∧ (hs i).Ok ∧ 0 ≤ (hs i).hop ∧ (hs i).frm = none ∧ (hs i).hop ≤ P.c
  at_ : (hs P.a).phase = "runs" ∧ (hs P.a).hop = P.c ∧ (hs P.a).text = some P.tx ∧ 0 ≤ (hs P.a).tri
  oth : ∀ i, i < P.N → i ≠ P.a → (hs i).phase = "away" ∨ (hs i).phase = "given"
  gvn : ∀ i, i < P.N → i ≠ P.a → (hs i).phase = "given" → (hs i).hop + 1 ≤ P.c ∧ 1 ≤ (hs i).tri ∧ ∃ d, (hs i).goal = some d ∧ Done P hs d ((hs i).hop + 1)
  came : ∀ i, i < P.N → ∀ S h t, (hs i).came = some (S, h, t) → (∃ j, j < P.N ∧ P.nu j = S) ∧ 1 ≤ h ∧ 1 ≤ t ∧ h ≤ P.c
def M0 (P : Pa) (hs : Nat → HostS) (r : Rec) : Prop := (∃ i, i < P.N ∧ P.nu i = r.snd) ∧ (∃ j, j < P.N ∧ P.nu j = r.dst) ∧ r.m.ok ∧ match r.m with
  | .piece h _ _ _ _ => Done P hs r.dst h
  | .go h _ => Done P hs r.dst h
  | .whole h _ => h ≤ P.c
  | .going h _ => h ≤ P.c
def M1 (P : Pa) (hs : Nat → HostS) (r : Rec) : Prop := (∃ i, i < P.N ∧ P.nu i = r.snd) ∧ (∃ j, j < P.N ∧ P.nu j = r.dst) ∧ r.m.ok ∧ match r.m with
  | .piece h tr _ _ _ => Done P hs r.dst h ∨ (h = P.c + 1 ∧ r.snd = P.nu P.a ∧ r.dst = P.nu P.g ∧ tr ≤ (hs P.a).tri)
  | .go h _ => Done P hs r.dst h
  | .whole h _ => h ≤ P.c
  | .going h _ => h ≤ P.c
theorem M0.m1 {r : Rec} (h : M0 P hs r) : M1 P hs r := by
  obtain ⟨h1, h2, h3, h4⟩ := h
  refine ⟨h1, h2, h3, ?_⟩
  cases hm : r.m <;> rw [hm] at h4
  · exact .inl h4
  · exact h4
  · exact h4
  · exact h4
/-- the near host changes, and stays where it is -/
theorem done_near {s' : HostS} (e1 : s'.hop = (hs P.a).hop) (e2 : s'.frm = (hs P.a).frm) {d h : Int} (q : Done P hs d h) : Done P (upd1 hs P.a s') d h := done_mono (fun i hi => by
  by_cases e : i = P.a
  · subst e; rw [upd1_same, e1, e2]; exact .inr ⟨rfl, id⟩
  · rw [upd1_ne e]; exact .inr ⟨rfl, id⟩) q
/-- frozen and resumed -/
theorem hop_lap (I : HopI P hs) {s' : HostS} (e : s' = { hs P.a with tri := (hs P.a).tri + 1, goal := none, pieces := [] }) : HopI P (upd1 hs P.a s') ∧ ∀ r, M1 P hs r → M1 P (upd1 hs P.a s') r := by
  have ea : upd1 hs P.a s' P.a = s' := upd1_same
  have dm : ∀ d h, Done P hs d h → Done P (upd1 hs P.a s') d h := fun d h => done_near (by rw [e]) (by rw [e])
  refine ⟨⟨fun i hi => ?_, ?_, fun i hi na => ?_, fun i hi na hp => ?_, fun i hi S h t hc => ?_⟩, fun r h => ?_⟩
  · by_cases ei : i = P.a
    · subst ei; rw [ea, e]
      obtain ⟨n1, n2, n3, n4, n5⟩ := I.num _ hi
      exact ⟨n1, ⟨n2.keys, n2.range, n2.small.1, n2.small.2.1, Nat.zero_le _⟩, n3, n4, n5⟩
    · rw [upd1_ne ei]; exact I.num i hi
  · rw [ea, e]
    obtain ⟨a1, a2, a3, a4⟩ := I.at_
    exact ⟨a1, a2, a3, by show 0 ≤ (hs P.a).tri + 1; omega⟩
  · rw [upd1_ne na]; exact I.oth i hi na
  · rw [upd1_ne na] at hp ⊢
    obtain ⟨g1, g2, d, g3, g4⟩ := I.gvn i hi na hp
    exact ⟨g1, g2, d, g3, dm _ _ g4⟩
  · have hc' : (hs i).came = some (S, h, t) := by
      by_cases ei : i = P.a
      · subst ei; rw [ea, e] at hc; exact hc
      · rw [upd1_ne ei] at hc; exact hc
    exact I.came i hi S h t hc'
  · obtain ⟨h1, h2, h3, h4⟩ := h
    refine ⟨h1, h2, h3, ?_⟩
    cases hm : r.m <;> rw [hm] at h4
    · refine h4.imp (dm _ _) fun q => ⟨q.1, q.2.1, q.2.2.1, ?_⟩
      rw [ea, e]
      show _ ≤ (hs P.a).tri + 1
      omega
    · exact h4
    · exact dm _ _ h4
    · exact h4
/-- what the near host tells while frozen in a lap -/
theorem hop_told (c0 : 0 ≤ P.c) (ga : P.a < P.N) (gg : P.g < P.N) (I : HopI P hs) {s1 s' : HostS} {zs : List Str} (hz : zs.length ≤ 1000) (hz2 : ∀ x ∈ zs, x.length ≤ 1000 ∧ okS x = true) (e1 : s1 = { hs P.a with phase := "frozen", goal := some (P.nu P.g), pieces := zs, tri := (hs P.a).tri + 1 }) (e : s' = { hs P.a with tri := (hs P.a).tri + 1, goal := none, pieces := [] })
    {q : Int × Msg} (hq : q ∈ s1.recs) : M1 P (upd1 hs P.a s') ⟨P.nu P.a, q.1, q.2⟩ := by
  obtain ⟨a1, a2, a3, a4⟩ := I.at_
  subst e1
  rcases mem_recs hq with ⟨hf, k, hk, rfl⟩ | ⟨hf, _⟩ | ⟨hf, _⟩ | ⟨c, hc, rfl⟩
  · refine ⟨⟨P.a, ga, rfl⟩, ⟨P.g, gg, rfl⟩, ⟨?_, ?_, ?_, ?_, ?_, ?_⟩, .inr ⟨?_, rfl, rfl, ?_⟩⟩
    · show 1 ≤ (hs P.a).hop + 1; omega
    · show 1 ≤ (hs P.a).tri + 1; omega
    · omega
    · have : k < zs.length := hk
      show (k : Int) < (zs.length : Int)
      omega
    · show (zs.length : Int) ≤ 1000
      omega
    · have : k < zs.length := hk
      show (zs.getD k Str.empty).length ≤ 1000 ∧ okS (zs.getD k Str.empty) = true
      rw [List.getD_eq_getElem?_getD, List.getElem?_eq_getElem this]
      exact hz2 _ (List.getElem_mem this)
    · show (hs P.a).hop + 1 = P.c + 1
      omega
    · rw [upd1_same, e]
      exact Int.le_refl _
  · exact absurd hf ph11
  · exact absurd hf ph10
  · obtain ⟨S, h, t⟩ := c
    obtain ⟨c1, c2, c3, c4⟩ := I.came _ ga S h t hc
    exact ⟨⟨P.a, ga, rfl⟩, c1, ⟨c2, c3⟩, c4⟩
/-- frozen at last -/
theorem hop_start (G : P.Good) (I : HopI P hs) (ht : P.t = (hs P.a).tri + 1) {s1 : HostS} (e1 : s1 = { hs P.a with phase := "frozen", goal := some (P.nu P.g), pieces := P.pcs, tri := (hs P.a).tri + 1 }) :
    Inv P (upd1 hs P.a s1) ∧ ∀ r, M1 P hs r → MOk P (upd1 hs P.a s1) r := by
  have ea : upd1 hs P.a s1 P.a = s1 := upd1_same
  have eg : upd1 hs P.a s1 P.g = hs P.g := upd1_ne (Ne.symm G.ag)
  have dm : ∀ d h, Done P hs d h → Done P (upd1 hs P.a s1) d h := fun d h => done_near (by rw [e1]) (by rw [e1])
  obtain ⟨a1, a2, a3, a4⟩ := I.at_
  obtain ⟨g1, g2, g3, g4, g5⟩ := I.num _ G.g_
  have nr : ¬ Run P (upd1 hs P.a s1) := by
    unfold Run
    rw [eg]
    rcases I.oth _ G.g_ (Ne.symm G.ag) with q | q
    · rw [q]; exact ph2
    · rw [q]; exact ph5
  refine ⟨⟨fun i hi => ?_, ?_, ?_, fun q => absurd q nr, fun q => ?_, fun i hi na ng => ?_, fun i hi na hp => ?_, fun i hi S h t hc => ?_⟩, fun r h => ?_⟩
  · by_cases ei : i = P.a
    · subst ei; rw [ea, e1]
      obtain ⟨n1, n2, n3, n4, n5⟩ := I.num _ hi
      exact ⟨n1, ⟨n2.keys, n2.range, n2.small.1, n2.small.2.1, G.n1⟩, n3⟩
    · rw [upd1_ne ei]
      obtain ⟨n1, n2, n3, n4, n5⟩ := I.num _ hi
      exact ⟨n1, n2, n3⟩
  · rw [ea, e1]
    exact ⟨a2, ht.symm, (I.num _ G.a_).2.2.2.1, .inl ⟨rfl, rfl, rfl⟩⟩
  · rw [eg]
    exact .inl ⟨I.oth _ G.g_ (Ne.symm G.ag), g4, g5⟩
  · rw [ea, e1] at q
    exact absurd q ph11
  · rw [upd1_ne na]
    obtain ⟨n1, n2, n3, n4, n5⟩ := I.num _ hi
    exact ⟨n4, n5, I.oth i hi na⟩
  · rw [upd1_ne na] at hp ⊢
    obtain ⟨g1, g2, d, g3, g4⟩ := I.gvn i hi na hp
    exact ⟨g1, g2, d, g3, dm _ _ g4⟩
  · have hc' : (hs i).came = some (S, h, t) := by
      by_cases ei : i = P.a
      · subst ei; rw [ea, e1] at hc; exact hc
      · rw [upd1_ne ei] at hc; exact hc
    obtain ⟨c1, c2, c3, c4⟩ := I.came i hi S h t hc'
    exact ⟨c1, c2, c3, .inl c4⟩
  · obtain ⟨h1, h2, h3, h4⟩ := h
    refine ⟨h1, h2, h3, ?_⟩
    cases hm : r.m <;> rw [hm] at h4
    · refine h4.imp (dm _ _) fun q => ⟨q.1, q.2.1, q.2.2.1, by omega, fun z => by omega⟩
    · exact .inl h4
    · exact .inl (dm _ _ h4)
    · exact .inl h4
/-- the far host runs: the next hop -/
theorem hop_end (G : P.Good) (I : Inv P hs) (R : Run P hs) (P' : Pa) (e : P'.N = P.N ∧ P'.nu = P.nu ∧ P'.a = P.g ∧ P'.c = P.c + 1 ∧ P'.tx = P.tx) : HopI P' hs ∧ ∀ r, MOk P hs r → M0 P' hs r := by
  obtain ⟨N, a, g, nu, c, t, pcs, tx⟩ := P'
  obtain ⟨rfl, rfl, rfl, rfl, rfl⟩ : N = P.N ∧ nu = P.nu ∧ a = P.g ∧ c = P.c + 1 ∧ tx = P.tx := e
  have f3 : F3 P (hs P.g) := by
    rcases I.far with f | f | f
    · exact absurd R f.nrun
    · exact absurd (f.1.symm.trans R) ph2
    · exact f
  have c0 := G.c_
  have t0 := G.t_
  have dg : ∀ h, h ≤ P.c + 1 → Done P hs (P.nu P.g) h := fun h hh => by
    refine ⟨P.g, G.g_, rfl, ?_⟩
    rw [f3.2.1]
    by_cases z : h < P.c + 1
    · exact .inl z
    · exact .inr ⟨by omega, f3.2.2.1⟩
  refine ⟨⟨fun i hi => ?_, ⟨f3.1, f3.2.1, f3.2.2.2.1, by have := f3.2.2.2.2; show 0 ≤ (hs P.g).tri; omega⟩, fun i hi na => ?_, fun i hi na hp => ?_, fun i hi S h t hc => ?_⟩, fun r h => ?_⟩
  · obtain ⟨n1, n2, n3⟩ := I.num i hi
    refine ⟨n1, n2, n3, ?_⟩
    show (hs i).frm = none ∧ (hs i).hop ≤ P.c + 1
    by_cases ia : i = P.a
    · subst ia
      have := I.near
      exact ⟨this.2.2.1, by omega⟩
    · by_cases ig : i = P.g
      · subst ig
        exact ⟨f3.2.2.1, by have := f3.2.1; omega⟩
      · have := I.oth i hi ia ig
        exact ⟨this.1, by omega⟩
  · by_cases ia : i = P.a
    · subst ia
      obtain ⟨m1, m2, m3, z | z | z⟩ := I.near
      · exact absurd z.1 (I.run R)
      · exact .inr z.1
      · exact .inl z.1
    · exact (I.oth i hi ia na).2.2
  · show (hs i).hop + 1 ≤ P.c + 1 ∧ 1 ≤ (hs i).tri ∧ ∃ d, (hs i).goal = some d ∧ Done P hs d ((hs i).hop + 1)
    by_cases ia : i = P.a
    · subst ia
      obtain ⟨m1, m2, m3, z | z | z⟩ := I.near
      · exact absurd z.1 (I.run R)
      · exact ⟨by omega, by omega, _, z.2, dg _ (by omega)⟩
      · exact absurd (z.1.symm.trans hp) ph1
    · obtain ⟨g1, g2, d, g3, g4⟩ := I.gvn i hi ia hp
      exact ⟨by omega, g2, d, g3, g4⟩
  · obtain ⟨c1, c2, c3, c4⟩ := I.came i hi S h t hc
    exact ⟨c1, c2, c3, by show h ≤ P.c + 1; rcases c4 with q | ⟨q, _⟩ <;> omega⟩
  · obtain ⟨h1, h2, h3, h4⟩ := h
    refine ⟨h1, h2, h3, ?_⟩
    cases hm : r.m <;> rw [hm] at h4
    · rcases h4 with q | ⟨q1, _, q2, _⟩
      · exact q
      · show Done P hs _ _
        rw [q2, q1]
        exact dg _ (Int.le_refl _)
    · show _ ≤ P.c + 1
      rcases h4 with q | ⟨q, _⟩ <;> omega
    · rcases h4 with q | ⟨q1, _, q2, _⟩
      · exact q
      · show Done P hs _ _
        rw [q2, q1]
        exact dg _ (Int.le_refl _)
    · show _ ≤ P.c + 1
      rcases h4 with q | ⟨q, _⟩ <;> omega
/-- an old message, between two hops -/
theorem hop_step (G : ∀ i j, i < P.N → j < P.N → P.nu i = P.nu j → i = j) (I : HopI P hs) {r : Rec} (R : M0 P hs r) {j : Nat} (hj : j < P.N) (e : P.nu j = r.dst) :
    HopI P (upd1 hs j ((hs j).receive r.snd r.m)) ∧ ∀ r', M0 P hs r' → M0 P (upd1 hs j ((hs j).receive r.snd r.m)) r' := by
  obtain ⟨snd, dst, m⟩ := r
  obtain ⟨_, _, hok, hR⟩ := R
  dsimp only at e hok hR ⊢
  subst e
  have same : ∀ s', s' = hs j → HopI P (upd1 hs j s') ∧ ∀ r', M0 P hs r' → M0 P (upd1 hs j s') r' := fun s' h => by
    rw [upd1_id h]
    exact ⟨I, fun _ q => q⟩
  have leave : (hs j).phase = "given" → HopI P (upd1 hs j (hs j).left) ∧ ∀ r', M0 P hs r' → M0 P (upd1 hs j (hs j).left) r' := fun hp => by
    have ja : P.a ≠ j := by rintro rfl; exact ph8 (I.at_.1.symm.trans hp)
    have ej : upd1 hs j (hs j).left j = (hs j).left := upd1_same
    have dm : ∀ d h, Done P hs d h → Done P (upd1 hs j (hs j).left) d h := fun d h => done_mono fun i hi => by
      by_cases e : i = j
      · subst e; rw [ej]; exact .inr ⟨rfl, id⟩
      · rw [upd1_ne e]; exact .inr ⟨rfl, id⟩
    refine ⟨⟨fun i hi => ?_, ?_, fun i hi na => ?_, fun i hi na hp' => ?_, fun i hi S h t hc => ?_⟩, fun r h => ?_⟩
    · by_cases ei : i = j
      · subst ei; rw [ej]
        obtain ⟨n1, n2, n3, n4, n5⟩ := I.num _ hi
        exact ⟨n1, ⟨n2.keys, n2.range, n2.small.1, n2.small.2.1, Nat.zero_le _⟩, n3, n4, n5⟩
      · rw [upd1_ne ei]; exact I.num i hi
    · rw [upd1_ne ja]; exact I.at_
    · by_cases ei : i = j
      · subst ei; rw [ej]; exact .inl rfl
      · rw [upd1_ne ei]; exact I.oth i hi na
    · by_cases ei : i = j
      · subst ei; rw [ej] at hp'; exact absurd hp' ph1
      · rw [upd1_ne ei] at hp' ⊢
        obtain ⟨g1, g2, d, g3, g4⟩ := I.gvn i hi na hp'
        exact ⟨g1, g2, d, g3, dm _ _ g4⟩
    · have hc' : (hs i).came = some (S, h, t) := by
        by_cases ei : i = j
        · subst ei; rw [ej] at hc; exact hc
        · rw [upd1_ne ei] at hc; exact hc
      exact I.came i hi S h t hc'
    · obtain ⟨h1, h2, h3, h4⟩ := h
      refine ⟨h1, h2, h3, ?_⟩
      cases hm : r.m <;> rw [hm] at h4
      · exact dm _ _ h4
      · exact h4
      · exact dm _ _ h4
      · exact h4
  have dj : ∀ h, Done P hs (P.nu j) h → h < (hs j).hop ∨ ((hs j).hop = h ∧ (hs j).frm = none) := fun h ⟨j', hj', e', q⟩ => by
    have := G _ _ hj' hj e'
    subst this
    exact q
  cases m with
  | piece h tr i m z => exact same _ (tp_done (dj _ hR))
  | go h tr =>
    refine same _ (tg_no ?_)
    rintro ⟨q1, _, q2⟩
    rcases dj _ hR with q | ⟨_, q⟩
    · omega
    · rw [q] at q2; cases q2
  | whole h tr =>
    have nf : ¬ (hs j).phase = "frozen" := by
      by_cases ja : j = P.a
      · subst ja; rw [I.at_.1]; exact ph9
      · rcases I.oth j hj ja with q | q
        · rw [q]; exact ph3
        · rw [q]; exact ph6
    refine same _ ?_
    unfold HostS.receive
    dsimp only
    split
    · unfold HostS.answer; rw [if_pos rfl, if_neg nf]
    · rfl
  | going h tr =>
    by_cases c : (hs j).goal = some snd ∧ h = (hs j).hop + 1 ∧ tr = (hs j).tri
    · have hE : (hs j).receive snd (.going h tr) = (hs j).answer false := by unfold HostS.receive; exact if_pos c
      rw [hE]
      by_cases hf : (hs j).phase = "given"
      · have hE2 : (hs j).answer false = (hs j).left := by unfold HostS.answer; rw [if_neg (by decide), if_pos hf]
        rw [hE2]
        exact leave hf
      · have hE2 : (hs j).answer false = hs j := by unfold HostS.answer; rw [if_neg (by decide), if_neg hf]
        exact same _ hE2
    · have hE : (hs j).receive snd (.going h tr) = hs j := by unfold HostS.receive; exact if_neg c
      exact same _ hE
end
end Rel
end
section
/-! the law's world: box, numbers, hosts, messages -/
namespace Rel
open PySem PySem.Spec PyProof.Rows L2 Evl
/-- the box of draws -/
def Tin (H : Hp) (p : Addr) (b : Int) : Prop := ∃ A B C : Int, H p = some (.lst [.int A, .int B, .int C]) ∧ 0 ≤ A ∧ 0 ≤ B ∧ B < 2 ^ 62 ∧ 0 ≤ C ∧ C ≤ b
theorem Tin.ex {H H' : Hp} {p : Addr} {b : Int} (h : Tin H p b) (e : Ex H H') : Tin H' p b := by
  obtain ⟨A, B, C, h1, h2⟩ := h
  exact ⟨A, B, C, e _ _ h1, h2⟩
theorem Tin.le {H : Hp} {p : Addr} {b b' : Int} (h : Tin H p b) (e : b ≤ b') : Tin H p b' := by
  obtain ⟨A, B, C, h1, h2, h3, h4, h5, h6⟩ := h
  exact ⟨A, B, C, h1, h2, h3, h4, h5, by omega⟩
theorem Tin.but {H H' : Hp} {p q : Addr} {b : Int} (h : Tin H p b) (e : But q H H') (n : p ≠ q) : Tin H' p b := by
  obtain ⟨A, B, C, h1, h2⟩ := h
  exact ⟨A, B, C, e _ _ n h1, h2⟩
theorem Tin.some {H : Hp} {p : Addr} {b : Int} (h : Tin H p b) : H p ≠ none := by
  obtain ⟨A, B, C, h1, _⟩ := h
  rw [h1]; simp
theorem but_back {p q : Addr} {H H' : Hp} (b : But p H H') (n : q ≠ p) (h : H' q = none) : H q = none := by
  cases h0 : H q with
  | none => rfl
  | some o => rw [b q o n h0] at h; cases h

def RecAt (H : Hp) (a : Addr) (r : Rec) : Prop := ∃ v, H a = some (.lst [.int r.snd, .int r.dst, v]) ∧ Da N0 H v r.m.d
theorem RecAt.ex {H H' : Hp} {a : Addr} {r : Rec} (h : RecAt H a r) (e : Ex H H') : RecAt H' a r := by
  obtain ⟨v, h1, h2⟩ := h
  exact ⟨v, e _ _ h1, h2.ex e⟩
theorem RecAt.but {H H' : Hp} {a p : Addr} {r : Rec} {u : HO} (h : RecAt H a r) (b : But p H H') (hp : H p = some u) (hu : ¬ TupO u) (n : a ≠ p) : RecAt H' a r := by
  obtain ⟨v, h1, h2⟩ := h
  exact ⟨v, b _ _ n h1, h2.butT (noL_msg _) b hp hu⟩
theorem noL_came (c : Option (Int × Int × Int)) : noL (cameD c) = true := by
  cases c with
  | none => rfl
  | some c => rfl
/-- where host i and its dict and its list are -/
structure HsAt (C : Addr) (N : Nat) (ad : Nat → Addr) (hs : Nat → HostS) (L : Addr → Prop) (H : Hp) : Prop where
  at_ : ∃ td pl : Nat → Addr, (∀ i, i < N → HostAt C H (ad i) (td i) (pl i) (hs i)) ∧ (∀ i j, i < N → j < N → td i = td j → i = j) ∧ ∀ i, i < N → ¬ L (pl i)
structure Wd (C pt pn ph po : Addr) (N : Nat) (nu : Nat → Int) (ad : Nat → Addr) (b : Int) (hs : Nat → HostS) (os ms : List (Addr × Rec)) (H : Hp) : Prop where
  tin : Tin H pt b
  num : H pn = some (.lst ((List.range N).map fun i => V.int (nu i)))
  hst : H ph = some (.lst ((List.range N).map fun i => V.ref (ad i)))
  old : H po = some (.lst (os.map fun q => V.ref q.1))
  at_ : HsAt C N ad hs (fun a => a = pt ∨ a = po) H
  adi : ∀ i j, i < N → j < N → ad i = ad j → i = j
  msg : ∀ q ∈ ms, RecAt H q.1 q.2 ∧ q.1 ≠ pt ∧ q.1 ≠ po
  sub : ∀ q ∈ os, q ∈ ms
  sep : pn ≠ pt ∧ pn ≠ po ∧ ph ≠ pt ∧ ph ≠ po ∧ pt ≠ po
theorem HostAt.but {C p td pl x : Addr} {s : HostS} {H H' : Hp} {xs : List V} (h : HostAt C H p td pl s) (b : But x H H') (hx : H x = some (.lst xs)) (n : pl ≠ x) : HostAt C H' p td pl s := by
  obtain ⟨⟨dx, cm, h1, h2⟩, h3, h4⟩ := h
  exact ⟨⟨dx, cm, b.at hx h1 (by intro z; cases z), h2.butT (noL_came _) b hx id⟩, b.at hx h3 (by intro z; cases z), b _ _ n h4⟩
section
variable {C pt pn ph po : Addr} {N : Nat} {nu : Nat → Int} {ad : Nat → Addr} {b b' : Int} {hs : Nat → HostS} {os ms : List (Addr × Rec)} {H H' : Hp}
theorem HsAt.ex {L : Addr → Prop} (h : HsAt C N ad hs L H) (e : Ex H H') : HsAt C N ad hs L H' := by
  obtain ⟨td, pl, h1, h2, h3⟩ := h.at_
  exact ⟨td, pl, fun i hi => (h1 i hi).exx e, h2, h3⟩
theorem HsAt.but {L : Addr → Prop} {x : Addr} {xs : List V} (h : HsAt C N ad hs L H) (bb : But x H H') (hx : H x = some (.lst xs)) (hL : L x) : HsAt C N ad hs L H' := by
  obtain ⟨td, pl, h1, h2, h3⟩ := h.at_
  exact ⟨td, pl, fun i hi => (h1 i hi).but bb hx (fun z => h3 i hi (z ▸ hL)), h2, h3⟩
theorem Wd.ex (w : Wd C pt pn ph po N nu ad b hs os ms H) (e : Ex H H') : Wd C pt pn ph po N nu ad b hs os ms H' :=
  ⟨w.tin.ex e, e _ _ w.num, e _ _ w.hst, e _ _ w.old, w.at_.ex e, w.adi, fun q hq => ⟨(w.msg q hq).1.ex e, (w.msg q hq).2⟩, w.sub, w.sep⟩
theorem Wd.le (w : Wd C pt pn ph po N nu ad b hs os ms H) (h : b ≤ b') : Wd C pt pn ph po N nu ad b' hs os ms H := { w with tin := w.tin.le h }
/-- another box -/
theorem Wd.box (w : Wd C pt pn ph po N nu ad b hs os ms H) (t : Tin H' pt b') (e : But pt H H') : Wd C pt pn ph po N nu ad b' hs os ms H' := by
  obtain ⟨A, B, D, ht, _⟩ := w.tin
  obtain ⟨s1, s2, s3, s4, s5⟩ := w.sep
  exact ⟨t, e _ _ s1 w.num, e _ _ s3 w.hst, e _ _ (Ne.symm s5) w.old, w.at_.but e ht (.inl rfl), w.adi, fun q hq => ⟨(w.msg q hq).1.but e ht id (w.msg q hq).2.1, (w.msg q hq).2⟩, w.sub, w.sep⟩
/-- one more old message -/
theorem Wd.app (w : Wd C pt pn ph po N nu ad b hs os ms H) {q : Addr × Rec} (hq : q ∈ ms) : Wd C pt pn ph po N nu ad b hs (os ++ [q]) ms (upd H po (.lst (os.map (fun q => V.ref q.1) ++ [.ref q.1]))) := by
  obtain ⟨s1, s2, s3, s4, s5⟩ := w.sep
  have e : But po H (upd H po (.lst (os.map (fun q => V.ref q.1) ++ [.ref q.1]))) := But.upd
  refine ⟨w.tin.but e s5, e _ _ s2 w.num, e _ _ s4 w.hst, ?_, w.at_.but e w.old (.inr rfl), w.adi, fun q hq => ⟨(w.msg q hq).1.but e w.old id (w.msg q hq).2.2, (w.msg q hq).2⟩, fun x hx => ?_, w.sep⟩
  · rw [List.map_append]; exact upd_same
  · rcases List.mem_append.mp hx with h | h
    · exact w.sub x h
    · rw [List.mem_singleton.mp h]; exact hq
/-- more messages known -/
theorem Wd.more (w : Wd C pt pn ph po N nu ad b hs os ms H) {ms' : List (Addr × Rec)} (h : ∀ q ∈ ms', RecAt H q.1 q.2 ∧ q.1 ≠ pt ∧ q.1 ≠ po) : Wd C pt pn ph po N nu ad b hs os (ms ++ ms') H :=
  { w with msg := fun q hq => (List.mem_append.mp hq).elim (w.msg q) (h q), sub := fun q hq => List.mem_append_left _ (w.sub q hq) }
/-- fewer messages known -/
theorem Wd.less (w : Wd C pt pn ph po N nu ad b hs os ms H) : Wd C pt pn ph po N nu ad b hs os os H :=
  { w with msg := fun q hq => w.msg q (w.sub q hq), sub := fun q hq => hq }
/-- host j, for a call -/
theorem Wd.host (w : Wd C pt pn ph po N nu ad b hs os ms H) {j : Nat} (hj : j < N) : ∃ td pl, HostAt C H (ad j) td pl (hs j) ∧ ∀ (td' pl' : Addr) (H' : Hp) (s' : HostS), HostAt C H' (ad j) td' pl' s' → (td' = td ∨ H td' = none) → (pl' = pl ∨ H pl' = none) → Frm (ad j) td H H' →
    Wd C pt pn ph po N nu ad b (upd1 hs j s') os ms H' := by
  obtain ⟨tds, pls, h1, h2, h3⟩ := w.at_.at_
  refine ⟨tds j, pls j, h1 j hj, fun td' pl' H' s' hh ht hp fr => ?_⟩
  obtain ⟨⟨dxj, cmj, pj, _⟩, tj, lj⟩ := h1 j hj
  have keepL : ∀ a xs, H a = some (.lst xs) → H' a = some (.lst xs) := fun a xs h => fr a _ (by rintro rfl; rw [pj] at h; cases h) (by rintro rfl; rw [tj] at h; cases h) h
  have keepT : ∀ a o, TupO o → H a = some o → H' a = some o := fun a o ho h => fr a _ (by rintro rfl; rw [pj] at h; cases h; exact ho) (by rintro rfl; rw [tj] at h; cases h; exact ho) h
  have keepD : ∀ {v d}, noL d = true → Da N0 H v d → Da N0 H' v d := fun hn hd => hd.toT (fun a o ho q n => ⟨keepT a o ho q, n⟩) hn
  obtain ⟨A, B, D, ht0, t1⟩ := w.tin
  refine ⟨⟨A, B, D, keepL _ _ ht0, t1⟩, keepL _ _ w.num, keepL _ _ w.hst, keepL _ _ w.old, ⟨fun i => if i = j then td' else tds i, fun i => if i = j then pl' else pls i, fun i hi => ?_, fun i k hi hk e => ?_, fun i hi => ?_⟩, w.adi, fun q hq => ?_, w.sub, w.sep⟩
  · show HostAt C H' (ad i) (if i = j then td' else tds i) (if i = j then pl' else pls i) (upd1 hs j s' i)
    by_cases e : i = j
    · subst e
      rw [if_pos rfl, if_pos rfl, upd1_same]
      exact hh
    · rw [if_neg e, if_neg e, upd1_ne e]
      obtain ⟨⟨dx, cm, pi, ci⟩, ti, li⟩ := h1 i hi
      refine ⟨⟨dx, cm, fr _ _ (fun z => e (w.adi _ _ hi hj z)) (by rintro z; rw [z, tj] at pi; cases pi) pi, keepD (noL_came _) ci⟩, fr _ _ (by rintro z; rw [z, pj] at ti; cases ti) (fun z => e (h2 _ _ hi hj z)) ti, keepL _ _ li⟩
  · have ne : ∀ i, i < N → i ≠ j → td' ≠ tds i := fun i hi n z => by
      rcases ht with q | q
      · exact n (h2 _ _ hi hj (z.symm.trans q))
      · obtain ⟨_, ti, _⟩ := h1 i hi
        rw [z, ti] at q
        cases q
    replace e : (if i = j then td' else tds i) = (if k = j then td' else tds k) := e
    by_cases e1 : i = j
    · by_cases e2 : k = j
      · rw [e1, e2]
      · rw [if_pos e1, if_neg e2] at e
        exact absurd e (ne k hk e2)
    · by_cases e2 : k = j
      · rw [if_neg e1, if_pos e2] at e
        exact absurd e.symm (ne i hi e1)
      · rw [if_neg e1, if_neg e2] at e
        exact h2 _ _ hi hk e
  · by_cases e : i = j
    · show ¬ ((if i = j then pl' else pls i) = pt ∨ (if i = j then pl' else pls i) = po)
      rw [if_pos e]
      rcases hp with q | q
      · rw [q]; exact h3 j hj
      · rintro (z | z)
        · rw [z, ht0] at q; cases q
        · rw [z, w.old] at q; cases q
    · show ¬ ((if i = j then pl' else pls i) = pt ∨ (if i = j then pl' else pls i) = po)
      rw [if_neg e]
      exact h3 i hi
  · obtain ⟨⟨v, g1, g2⟩, g3⟩ := w.msg q hq
    exact ⟨⟨v, keepL _ _ g1, keepD (noL_msg _) g2⟩, g3⟩
end
/-! ### comprehensions over any walk, with effects -/
theorem lc_on {J : It} {n : Nat} {G : Hp → Prop} {Y : Nat → Hp → V → Hp → Prop} (w : Walk J n G Y) {g : TG} {tt : TT} {te : TE} {vs : List Nat} {σ : L2.St} {D : Addr} {H0 : Hp} {Qd : Hp → Prop} (Pv : Nat → Hp → Prop) (h0 : Pv 0 H0) (hG : ∀ i H, i ≤ n → Pv i H → G H)
    (hs : ∀ i x H H', i < n → Pv i H → Y i H x H' → g x (wipe σ vs) H' fun σ2 H2 => wipe σ2 vs = wipe σ vs ∧ tt σ2 H2 fun b H3 =>
      if b = true then te σ2 H3 fun y H4 => ∃ acc, H4 D = some (.lst acc) ∧ acc.length < sizeLine ∧ Pv (i + 1) (upd H4 D (.lst (acc ++ [y]))) else Pv (i + 1) H3)
    (hd : ∀ H, Pv n H → Qd H) :
    ∃ W : Nat → Nat → Hp → Prop, (∃ m, W 0 m H0) ∧ ∀ i m H, W i m H →
      (J.stop i H ∧ Qd H) ∨ (J.go i H ∧ ∃ Nx : Hp → Prop, (∀ H', Nx H' → ∃ m', m' < m ∧ W (i + 1) m' H') ∧ ∀ x H', J.yld i H x H' → g x (wipe σ vs) H' fun σ2 H2 => wipe σ2 vs = wipe σ vs ∧ tt σ2 H2 fun b H3 =>
        if b = true then te σ2 H3 fun y H4 => ∃ acc, H4 D = some (.lst acc) ∧ acc.length < sizeLine ∧ Nx (upd H4 D (.lst (acc ++ [y]))) else Nx H3) := by
  refine ⟨fun i m H => m = n - i ∧ i ≤ n ∧ Pv i H, ⟨n, by simp, Nat.zero_le _, h0⟩, ?_⟩
  rintro i m H ⟨rfl, hi, p⟩
  have q := hG i H hi p
  by_cases hlt : i < n
  · exact .inr ⟨w.goes i H hlt q, Pv (i + 1), fun H' p' => ⟨n - (i + 1), by omega, rfl, hlt, p'⟩, fun x H' y => hs i x H H' hlt p (w.yields i H x H' hlt q y)⟩
  · have : i = n := by omega
    subst this
    exact .inl ⟨w.stops H q, hd H p⟩
end Rel
namespace Rel
open PySem PySem.Spec PyProof.Rows L2 Evl
theorem atI_nat {α : Type} {xs : List α} {j : Nat} {x : α} (h : xs[j]? = some x) : atI xs (j : Int) = some x := by
  have hl : j < xs.length := by
    by_cases q : j < xs.length
    · exact q
    · rw [List.getElem?_eq_none (by omega)] at h; cases h
  unfold atI ixN
  rw [if_pos (by omega), if_pos (by omega)]
  show xs[((j : Int)).toNat]? = some x
  rw [Int.toNat_natCast]
  exact h
theorem rng_get {α : Type} {N j : Nat} {f : Nat → α} (h : j < N) : ((List.range N).map f)[j]? = some (f j) := by
  rw [List.getElem?_map, List.getElem?_range h]
  rfl
theorem perm_map {α β : Type} (f : α → β) {xs ys : List β} (h : xs.Perm ys) : ∀ {l : List α}, xs = l.map f → ∃ l' : List α, l'.Perm l ∧ ys = l'.map f := by
  induction h with
  | nil => intro l e; exact ⟨l, List.Perm.refl _, e⟩
  | cons x h ih =>
    intro l e
    cases l with
    | nil => cases e
    | cons a l =>
      rw [List.map_cons, List.cons.injEq] at e
      obtain ⟨l', h1, h2⟩ := ih e.2
      exact ⟨a :: l', h1.cons a, by rw [List.map_cons, h2, e.1]⟩
  | swap x y l0 =>
    intro l e
    match l, e with
    | a :: b :: l, e =>
      simp only [List.map_cons, List.cons.injEq] at e
      exact ⟨b :: a :: l, List.Perm.swap _ _ _, by simp only [List.map_cons]; rw [e.1, e.2.1, e.2.2]⟩
  | trans h1 h2 ih1 ih2 =>
    intro l e
    obtain ⟨l1, p1, e1⟩ := ih1 e
    obtain ⟨l2, p2, e2⟩ := ih2 e1
    exact ⟨l2, p2.trans p1, e2⟩
section
variable {K : PySem.W.Frag} {σ : L2.St} {H : Hp} {ta tb te : TE} {a : Addr} {xs : List V} {v : V} {D : Ends} {tz : TS}
theorem rv_ixUL {p : Addr} {xs : List V} {i : Int} (h : SqL K H p xs) (ha : atI xs i = some v) : RV (rIx K) (.ref p) (.int i) H v := fun H1 e Q q => .inl (rv_ixL h ha H1 e Q q)
theorem rv_ixUT {p : Addr} {xs : List V} {i : Int} (h : SqT K H p xs) (ha : atI xs i = some v) : RV (rIx K) (.ref p) (.int i) H v := fun H1 e Q q => .inr (.inl (rv_ixT h ha H1 e Q q))
theorem ev_ixL {i : Int} (h : Ev ta σ H (.ref a)) (hi : Ev tb σ H (.int i)) (ha : H a = some (.lst xs)) (hx : atI xs i = some v) : Ev (tOp (rIxL K) ta tb) σ H v := ev_op h hi (rv_ixL (sq_of ha) hx)
theorem ev_ixUL {i : Int} (h : Ev ta σ H (.ref a)) (hi : Ev tb σ H (.int i)) (ha : H a = some (.lst xs)) (hx : atI xs i = some v) : Ev (tOp (rIx K) ta tb) σ H v := ev_op h hi (rv_ixUL (sq_of ha) hx)
theorem ev_ixUT {i : Int} (h : Ev ta σ H (.ref a)) (hi : Ev tb σ H (.int i)) (ha : H a = some (.tup xs)) (hx : atI xs i = some v) : Ev (tOp (rIx K) ta tb) σ H v := ev_op h hi (rv_ixUT (st_of ha) hx)
theorem ev_indexN {N : Nat} {nu : Nat → Int} {j : Nat} {d : Int} (h : Ev ta σ H (.ref a)) (hd : Ev tb σ H (.int d)) (ha : H a = some (.lst ((List.range N).map fun i => V.int (nu i)))) (inj : ∀ i j, i < N → j < N → nu i = nu j → i = j) (hj : j < N) (e : nu j = d) :
    Ev (tBM K "list" (rIndex K) ta (tCons tb tNil)) σ H (.int (j : Nat)) := fun H1 e1 Q q =>
  h H1 e1 _ fun H2 e2 => ⟨Or.inl ⟨rfl, _, sq_of (e2 _ _ (e1 _ _ ha))⟩, hd H2 (e1.trans e2) _ fun H3 e3 => ⟨a, _, .int d, j, .int (nu j), rfl, rfl, sq_of (e3 _ _ (e2 _ _ (e1 _ _ ha))), rfl, by
    rw [List.all_eq_true]; intro x hx; obtain ⟨i, _, rfl⟩ := List.mem_map.mp hx; rfl, rng_get hj, by rw [e]; exact beq_self_eq_true d, fun m z hm hz => by
    rw [rng_get (by omega)] at hz
    cases hz
    show (nu m == d) = false
    rw [beq_eq_false_iff_ne]
    intro z
    have := inj m j (by omega) hj (z.trans e.symm)
    omega, q H3 (e2.trans e3)⟩⟩
theorem s_appV {l : Addr} {xs : List V} (hl : H l = some (.lst xs)) (ha : Ev ta σ H (.ref l)) (h : Ev te σ H v) (hz : xs.length < sizeLine) (k : ∀ H1, Ex H H1 → D.nx σ (upd H1 l (.lst (xs ++ [v])))) :
    tDrop (tBM K "list" rAppend ta (tCons te tNil)) D σ H := ha H (Ex.refl H) _ fun H1 e1 =>
  ⟨Or.inl ⟨rfl, xs, sq_of (e1 l _ hl)⟩, h H1 e1 _ fun H2 e2 => ⟨l, xs, v, rfl, rfl, e2 l _ (e1 l _ hl), hz, k H2 (e1.trans e2)⟩⟩
end
theorem tupD_msg (m : Msg) : tupD m.d = m.d := by cases m <;> rfl
theorem okD_msg (m : Msg) : okD 4 m.d := by
  cases m <;> refine ⟨by simp [Msg.items], fun d hd => ?_⟩ <;> simp only [Msg.items, List.mem_cons, List.not_mem_nil, or_false] at hd <;> (rcases hd with rfl | rfl | rfl | rfl | rfl | rfl) <;> trivial
end Rel
namespace Rel
open PySem PySem.Spec PyProof.Rows L2 Evl
section
variable {K : PySem.W.Frag} {σ : L2.St} {H : Hp} {ta tb te : TE} {t tr : TA} {r : R2} {Q : VK} {QA : List V → Hp → Prop} {D : Ends} {tz : TS} {u : TGs} {n i : Nat} {v : V} {rb : List V → Hp → VK → Prop}
theorem t_op (h : ta σ H fun x H1 => tb σ H1 fun y H2 => r x y H2 Q) : tOp r ta tb σ H Q := h
theorem t_ev (h : Ev te σ H v) (k : ∀ H1, Ex H H1 → Q v H1) : te σ H Q := h H (Ex.refl H) Q k
theorem t_cons (h : ta σ H fun x H1 => tr σ H1 fun xs H2 => QA (x :: xs) H2) : tCons ta tr σ H QA := h
theorem t_nil (h : QA [] H) : tNil σ H QA := h
theorem t_cb (h : t σ H fun vs H1 => rb vs H1 Q) : tCB rb t σ H Q := h
theorem t_call {sp : Sp} {dvs : List V} {E : XK} (h : t σ H fun vs H1 => sp (vs ++ dvs) H1 Q E) : tCall sp dvs E t σ H Q := h
theorem t_rv {x y : V} (h : RV r x y H v) (k : ∀ H1, Ex H H1 → Q v H1) : r x y H Q := h H (Ex.refl H) Q k
theorem q_asgK (h : te σ H fun v H1 => tz D (σ.set i (some v)) H1) : tSeq (tAsg te (gName i)) tz D σ H := h
theorem s_asgK (h : te σ H fun v H1 => D.nx (σ.set i (some v)) H1) : tAsg te (gName i) D σ H := h
theorem q_asgTK (h : t σ H fun xs H1 => xs.length = n ∧ xs.length ≤ 1000 ∧ ∀ H2, Ex H1 H2 → u xs σ H2 (tz D)) (hm : ∀ σ H Q Q', (∀ xs H, Q xs H → Q' xs H) → t σ H Q → t σ H Q') : tSeq (tAsg (tTup t) (gTup K n u)) tz D σ H :=
  hm σ H _ _ (fun xs H1 ⟨e, l, q⟩ => ⟨sz_of (Nat.le_trans l (by decide)), fun U hU => ⟨U, _, rfl, st_of upd_same, e, q _ (Ex.new hU)⟩⟩) h
theorem q_asgT2 (h : t σ H fun xs H1 => xs.length ≤ sizeLine ∧ ∀ U, H1 U = none → (gTup K n u) (.ref U) σ (upd H1 U (.tup xs)) (tz D)) : tSeq (tAsg (tTup t) (gTup K n u)) tz D σ H := h
theorem g_tup2 {U : Addr} {xs : List V} {Qs : L2.St → Hp → Prop} (hl : xs.length = n) (h : u xs σ (upd H U (.tup xs)) Qs) : gTup K n u (.ref U) σ (upd H U (.tup xs)) Qs := ⟨U, xs, rfl, st_of upd_same, hl, h⟩
theorem q_par {i j : Nat} (h : t σ H fun vs H1 => ∃ v w, vs = [v, w] ∧ tz D ((σ.set i (some v)).set j (some w)) H1) : tSeq (tPar i j t) tz D σ H := h
theorem q_dropK (h : te σ H fun _ H1 => tz D σ H1) : tSeq (tDrop te) tz D σ H := h
theorem t_lst (h : t σ H fun xs H1 => xs.length ≤ sizeLine ∧ ∀ p, H1 p = none → Q (.ref p) (upd H1 p (.lst xs))) : tLst t σ H Q := h
theorem t_sl {rs : V → Option Int → Option Int → Hp → VK → Prop} {tl th : TO} (h : te σ H fun x H1 => tl σ H1 fun lo H2 => th σ H2 fun hi H3 => rs x lo hi H3 Q) : tSl rs te tl th σ H Q := h
theorem t_o {to : TO} {o : Option Int} {QO : Option Int → Hp → Prop} (h : EvO to σ H o) (k : ∀ H1, Ex H H1 → QO o H1) : to σ H QO := h H (Ex.refl H) QO k
end
end Rel
namespace Rel
open PySem PySem.Spec PyProof.Rows L2 Evl
theorem cutV_take {xs : List V} {N : Nat} : cutV xs none (some (N : Int)) = xs.take N := by
  unfold cutV
  rw [HT.sIx_none, HT.sIx_nat, List.drop_zero, Nat.sub_zero]
  rw [← List.take_take, List.take_length]
theorem _root_.List.Nodup.getElem_inj_iff' {α : Type} {l : List α} (h : l.Nodup) {i j : Nat} (hi : i < l.length) (hj : j < l.length) : l[i] = l[j] ↔ i = j := by
  refine ⟨fun e => ?_, fun e => by subst e; rfl⟩
  have h' := List.pairwise_iff_getElem.mp h
  rcases Nat.lt_trichotomy i j with q | q | q
  · exact absurd e (h' i j hi hj q)
  · exact q
  · exact absurd e.symm (h' j i hj hi q)
theorem nums_of {ys : List V} {N n : Nat} {f : Nat → V} (hf : ∀ i, f i = .int (0 + (i : Int))) (perm : ys.Perm ((List.range n).map f)) (hN : N ≤ n) :
    ∃ nu : Nat → Int, cutV ys none (some (N : Int)) = (List.range N).map (fun i => V.int (nu i)) ∧ (∀ i j, i < N → j < N → nu i = nu j → i = j) ∧ ∀ i, i < N → 0 ≤ nu i := by
  obtain ⟨l, h1, h2⟩ := perm_map f perm.symm rfl
  have hl : l.length = n := by have := h1.length_eq; rw [List.length_range] at this; exact this
  have hnd : l.Nodup := h1.nodup_iff.mpr List.nodup_range
  refine ⟨fun i => ((l.getD i 0 : Nat) : Int), ?_, fun i j hi hj e => ?_, fun i _ => Int.natCast_nonneg _⟩
  · rw [cutV_take, h2]
    refine List.ext_getElem? fun i => ?_
    by_cases hi : i < N
    · rw [List.getElem?_take_of_lt hi, rng_get hi, List.getElem?_map]
      show Option.map f l[i]? = some (V.int ((l.getD i 0 : Nat) : Int))
      rw [List.getD_eq_getElem?_getD, List.getElem?_eq_getElem (by omega)]
      show some (f _) = some (V.int ((l[i] : Nat) : Int))
      rw [hf, Int.zero_add]
    · rw [List.getElem?_eq_none (by rw [List.length_take]; omega), List.getElem?_eq_none (by rw [List.length_map, List.length_range]; omega)]
  · have e' : ((l.getD i 0 : Nat) : Int) = ((l.getD j 0 : Nat) : Int) := e
    rw [List.getD_eq_getElem?_getD, List.getD_eq_getElem?_getD, List.getElem?_eq_getElem (by omega), List.getElem?_eq_getElem (by omega)] at e'
    have e2 : l[i] = l[j] := by
      have : ((l[i] : Nat) : Int) = ((l[j] : Nat) : Int) := e'
      omega
    exact (hnd.getElem_inj_iff' (by omega) (by omega)).mp e2
/-- hosts made, one by one -/
structure Made (C D : Addr) (nu : Nat → Int) (H1 : Hp) (i : Nat) (ad : Nat → Addr) (H : Hp) : Prop where
  ls : H D = some (.lst ((List.range i).map fun k => V.ref (ad k)))
  ex : Ex H1 H
  at_ : ∃ td pl : Nat → Addr, (∀ k, k < i → HostAt C H (ad k) (td k) (pl k) (HostS.new (nu k)) ∧ H1 (ad k) = none ∧ H1 (td k) = none ∧ H1 (pl k) = none ∧ pl k ≠ D) ∧ (∀ j k, j < i → k < i → td j = td k → j = k)
  inj : ∀ j k, j < i → k < i → ad j = ad k → j = k
theorem Made.more {C D : Addr} {nu : Nat → Int} {H1 H H2 : Hp} {i : Nat} {ad : Nat → Addr} (m : Made C D nu H1 i ad H) (hD : H1 D = none) {x td pl : Addr} (hx : H x = none) (hh : HostAt C H2 x td pl (HostS.new (nu i))) (htd : H td = none) (hpl : H pl = none) (e : Ex H H2) :
    Made C D nu H1 (i + 1) (fun k => if k = i then x else ad k) (upd H2 D (.lst ((List.range i).map (fun k => V.ref (ad k)) ++ [.ref x]))) := by
  obtain ⟨tds, pls, h1, h2⟩ := m.at_
  have hl2 := e _ _ m.ls
  have b : But D H2 (upd H2 D (.lst ((List.range i).map (fun k => V.ref (ad k)) ++ [.ref x]))) := But.upd
  have plD : pl ≠ D := by rintro rfl; rw [m.ls] at hpl; cases hpl
  have sn : ∀ q o, H q = some o → ∀ z, H z = none → q ≠ z := fun q o h z hz e => by subst e; rw [h] at hz; cases hz
  refine ⟨?_, Ex.mut (m.ex.trans e) hD, ⟨fun k => if k = i then td else tds k, fun k => if k = i then pl else pls k, fun k hk => ?_, fun j k hj hk q => ?_⟩, fun j k hj hk q => ?_⟩
  · rw [List.range_succ, List.map_append, upd_same]
    congr 2
    congr 1
    · refine List.map_congr_left fun k hk => ?_
      have := List.mem_range.mp hk
      rw [if_neg (by omega)]
    · simp
  · show HostAt C _ (if k = i then x else ad k) (if k = i then td else tds k) (if k = i then pl else pls k) (HostS.new (nu k)) ∧ H1 (if k = i then x else ad k) = none ∧ H1 (if k = i then td else tds k) = none ∧ H1 (if k = i then pl else pls k) = none ∧ (if k = i then pl else pls k) ≠ D
    by_cases ki : k = i
    · subst ki
      simp only [if_true]
      exact ⟨hh.but b hl2 plD, fresh_back m.ex hx, fresh_back m.ex htd, fresh_back m.ex hpl, plD⟩
    · simp only [if_neg ki]
      obtain ⟨g1, g2, g3, g4, g5⟩ := h1 k (by omega)
      exact ⟨(g1.exx e).but b hl2 g5, g2, g3, g4, g5⟩
  · replace q : (if j = i then td else tds j) = (if k = i then td else tds k) := q
    by_cases ji : j = i
    · by_cases ki : k = i
      · rw [ji, ki]
      · rw [if_pos ji, if_neg ki] at q
        exact absurd q.symm (sn _ _ (h1 k (by omega)).1.tk _ htd)
    · by_cases ki : k = i
      · rw [if_neg ji, if_pos ki] at q
        exact absurd q (sn _ _ (h1 j (by omega)).1.tk _ htd)
      · rw [if_neg ji, if_neg ki] at q
        exact h2 _ _ (by omega) (by omega) q
  · by_cases ji : j = i
    · by_cases ki : k = i
      · rw [ji, ki]
      · rw [if_pos ji, if_neg ki] at q
        obtain ⟨⟨dx, cm, g, _⟩, _⟩ := (h1 k (by omega)).1
        exact absurd q.symm (sn _ _ g _ hx)
    · by_cases ki : k = i
      · rw [if_neg ji, if_pos ki] at q
        obtain ⟨⟨dx, cm, g, _⟩, _⟩ := (h1 j (by omega)).1
        exact absurd q (sn _ _ g _ hx)
      · rw [if_neg ji, if_neg ki] at q
        exact m.inj _ _ (by omega) (by omega) q
end Rel

namespace Rel
open PySem PySem.Spec PyProof.Rows L2 Evl
theorem t_lcL {K : PySem.W.Frag} {σ : L2.St} {H : Hp} {tl te : TE} {g : TG} {tt : TT} {vs : List Nat} {Q : VK} {a : Addr} {xs : List V} (h : Ev tl σ H (.ref a)) (ha : SqL K H a xs)
    (k : ∀ H1, Ex H H1 → ∀ D, H1 D = none → ∃ W : Nat → Nat → Hp → Prop, (∃ m, W 0 m (upd H1 D (.lst []))) ∧ ∀ i m H, W i m H →
      ((Itl K a).stop i H ∧ Q (.ref D) H) ∨ ((Itl K a).go i H ∧ ∃ Nx : Hp → Prop, (∀ H', Nx H' → ∃ m', m' < m ∧ W (i + 1) m' H') ∧ ∀ x H', (Itl K a).yld i H x H' → g x (wipe σ vs) H' fun σ2 H2 => wipe σ2 vs = wipe σ vs ∧ tt σ2 H2 fun b H3 =>
        if b = true then te σ2 H3 fun y H4 => ∃ acc, H4 D = some (.lst acc) ∧ acc.length < sizeLine ∧ Nx (upd H4 D (.lst (acc ++ [y]))) else Nx H3)) : tLc (iList K tl) g tt te vs σ H Q :=
  h H (Ex.refl H) _ fun H1 e1 => ⟨a, rfl, ⟨xs, ex_l e1 ha⟩, k H1 e1⟩
theorem t_make {C : Addr} {sp : Sp} {dvs : List V} {E : XK} {t : TA} {σ : L2.St} {H : Hp} {Q : VK} (h : t σ H fun vs H1 => ∀ x dx, H1 x = none → H1 dx = none → dx ≠ x →
  sp (.ref x :: (vs ++ dvs)) (upd (upd H1 dx (.own x)) x (.ins C dx [])) (fun v H2 => v = .non ∧ Q (.ref x) H2) E) : tMake C sp dvs E t σ H Q := h
end Rel

namespace Rel
open PySem PySem.Spec PyProof.Rows L2 Evl
theorem Made.ex' {C D : Addr} {nu : Nat → Int} {H1 H H2 : Hp} {i : Nat} {ad : Nat → Addr} (m : Made C D nu H1 i ad H) (e : Ex H H2) : Made C D nu H1 i ad H2 := by
  obtain ⟨td, pl, h1, h2⟩ := m.at_
  exact ⟨e _ _ m.ls, m.ex.trans e, ⟨td, pl, fun k hk => ⟨(h1 k hk).1.exx e, (h1 k hk).2⟩, h2⟩, m.inj⟩
/-- one host more is made -/
theorem made_one {C D : Addr} {nu : Nat → Int} {H1 H : Hp} {i : Nat} {ad : Nat → Addr} {E : XK} (m : Made C D nu H1 i ad H) (hD : H1 D = none) (hi : i < 1000) (hn : 0 ≤ nu i) (x dx : Addr) (hx : H x = none) (hdx : H dx = none) (ne : dx ≠ x) :
    spInit C (.ref x :: ([V.int (nu i)] ++ [])) (upd (upd H dx (.own x)) x (.ins C dx [])) (fun v H2 => v = .non ∧ ∃ acc, H2 D = some (.lst acc) ∧ acc.length < sizeLine ∧ ∃ ad', Made C D nu H1 (i + 1) ad' (upd H2 D (.lst (acc ++ [.ref x])))) E := by
  have hx2 : (upd H dx (.own x)) x = none := by rw [upd_ne (Ne.symm ne)]; exact hx
  have e1 : Ex H (upd (upd H dx (.own x)) x (.ins C dx [])) := (Ex.new hdx).trans (Ex.new hx2)
  refine ⟨x, dx, nu i, rfl, upd_same, hn, fun td pl H2 hh htd hpl bb => ⟨rfl, ?_⟩⟩
  have e2 : Ex H H2 := fun c o hc => bb c o (by rintro rfl; rw [hx] at hc; cases hc) (e1 c o hc)
  exact ⟨_, e2 _ _ m.ls, by rw [List.length_map, List.length_range]; exact sz_lt (by omega), _, m.more hD hx hh (fresh_back e1 htd) (fresh_back e1 hpl) e2⟩
end Rel
namespace Rel
open PySem PySem.Spec PyProof.Rows L2 Evl
theorem t_yes {te : TE} {σ : L2.St} {H : Hp} {Q : VK} {R : Hp → Prop} (h : te σ H Q) : tYes σ H (fun b H3 => if b = true then te σ H3 Q else R H3) := by
  show (if true = true then te σ H Q else R H)
  rw [if_pos rfl]
  exact h
theorem t_tst {tt : TT} {te : TE} {σ : L2.St} {H : Hp} {Q : VK} {R : Hp → Prop} {b : Bool} (ht : EvT tt σ H b) (h1 : b = true → ∀ H1, Ex H H1 → te σ H1 Q) (h2 : b = false → ∀ H1, Ex H H1 → R H1) : tt σ H (fun b H3 => if b = true then te σ H3 Q else R H3) :=
  ht H (Ex.refl H) _ fun H1 e1 => by
    cases b with
    | true => rw [if_pos rfl]; exact h1 rfl H1 e1
    | false => rw [if_neg (by decide)]; exact h2 rfl H1 e1
end Rel
namespace Rel
open PySem PySem.Spec PyProof.Rows L2 Evl
theorem made_wd {C pt pn D po : Addr} {N : Nat} {nu : Nat → Int} {ad : Nat → Addr} {b : Int} {H1 H : Hp} (m : Made C D nu H1 N ad H) (t : Tin H1 pt b) (hn : H1 pn = some (.lst ((List.range N).map fun i => V.int (nu i)))) (hD : H1 D = none) (hpo : H po = none) (ne : pt ≠ pn) :
    Wd C pt pn D po N nu ad b (fun i => HostS.new (nu i)) [] [] (upd H po (.lst [])) := by
  obtain ⟨td, pl, h1, h2⟩ := m.at_
  have e : Ex H (upd H po (.lst [])) := Ex.new hpo
  have t' := t.ex (m.ex.trans e)
  obtain ⟨A, B, D', ht, _⟩ := t.ex m.ex
  refine ⟨t', e _ _ (m.ex _ _ hn), e _ _ m.ls, upd_same, ⟨td, pl, fun i hi => (h1 i hi).1.exx e, h2, fun i hi => ?_⟩, m.inj, fun q hq => (by cases hq), fun q hq => (by cases hq), Ne.symm ne, ?_, ?_, ?_, ?_⟩
  · rintro (z | z)
    · have := (h1 i hi).2.2.2.1
      rw [z] at this
      exact t.some this
    · have := (h1 i hi).1.pc
      rw [z, hpo] at this
      cases this
  · rintro rfl; rw [m.ex _ _ hn] at hpo; cases hpo
  · rintro rfl; exact t.some hD
  · rintro rfl; rw [m.ls] at hpo; cases hpo
  · rintro rfl; rw [ht] at hpo; cases hpo
section
variable {σ : L2.St} {H : Hp} {te : TE} {ta : TA} {p td pl C : Addr} {s : HostS} {D : Ends} {tz : TS} {E : XK} {α : Type} {args : α → List V} {pre : α → HostS → Hp → Prop} {res : α → HostS → HostS} {val : α → HostS → V} {m : Str}
theorem q_callM (a : α) (h : Ev te σ H (.ref p)) (hx : EvA ta σ H (args a)) (ho : HostAt C H p td pl s) (hp : ∀ H', Ex H H' → pre a s H')
    (k : ∀ (td' pl' : Addr) (H' : Hp), HostAt C H' p td' pl' (res a s) → (td' = td ∨ H td' = none) → (pl' = pl ∨ H pl' = none) → Frm p td H H' → tz D σ H')
    (hm : m ∈ (["number", "phase", "hop", "running", "begin", "freeze", "resume", "receive", "take_answer", "leave", "take_piece", "is_whole", "take_go", "messages"] : List Str) := by simp) : tSeq (tDrop (tMeth C m (spM C α args pre res val) [] E te ta)) tz D σ H := s_callM (D := { D with nx := tz D }) a h hx ho hp k hm
end
/-- the first hop -/
theorem hop_zero {N : Nat} {nu : Nat → Int} {tx : Str} (hN : 0 < N) (nn : ∀ i, i < N → 0 ≤ nu i) : HopI { N := N, a := 0, g := 0, nu := nu, c := 0, t := 0, pcs := [], tx := tx } (upd1 (fun i => HostS.new (nu i)) 0 { HostS.new (nu 0) with phase := "runs", text := some tx }) := by
  refine ⟨fun i hi => ?_, ⟨rfl, rfl, rfl, Int.le_refl _⟩, fun i hi na => ?_, fun i hi na hp => ?_, fun i hi S h t hc => ?_⟩
  · by_cases e : i = 0
    · subst e
      rw [upd1_same]
      exact ⟨rfl, HostS.new_ok (nu 0) |> fun o => ⟨o.keys, o.range, o.small⟩, Int.le_refl _, rfl, Int.le_refl _⟩
    · rw [upd1_ne e]
      exact ⟨rfl, HostS.new_ok _, Int.le_refl _, rfl, Int.le_refl _⟩
  · have : i ≠ 0 := na
    rw [upd1_ne this]
    exact .inl rfl
  · have : i ≠ 0 := na
    rw [upd1_ne this] at hp
    exact absurd hp ph1
  · by_cases e : i = 0
    · subst e; rw [upd1_same] at hc; cases hc
    · rw [upd1_ne e] at hc; cases hc
end Rel

namespace Rel
open PySem PySem.Spec PyProof.Rows L2 Evl
section
variable {K : PySem.W.Frag} {σ : L2.St} {H : Hp} {ta : TA} {tl : TE} {g : TG} {tb tz : TS} {D : Ends}
theorem t_forR2 (h : ta σ H fun vs H1 => ∃ i j : Int, vs = [.int i, .int j] ∧ (-(2 ^ 62) ≤ i ∧ i < 2 ^ 62 ∧ -(2 ^ 62) ≤ j ∧ j < 2 ^ 62) ∧ LoopOn (Itr i (j - i).toNat) g tb D σ H1) : tFor (iRng2 ta) g tb D σ H := h
theorem t_forR1 (h : ta σ H fun vs H1 => ∃ j : Int, vs = [.int j] ∧ -(2 ^ 62) ≤ j ∧ j < 2 ^ 62 ∧ LoopOn (Itr 0 j.toNat) g tb D σ H1) : tFor (iRng1 ta) g tb D σ H := h
theorem t_forL (h : tl σ H fun x H1 => ∃ a, x = .ref a ∧ (∃ xs, SqL K H1 a xs) ∧ LoopOn (Itl K a) g tb D σ H1) : tFor (iList K tl) g tb D σ H := h
end
/-- between two hops: what stands -/
def pa0 (N a : Nat) (nu : Nat → Int) (c : Nat) (tx : Str) : Pa := ⟨N, a, 0, nu, c, 0, [], tx⟩
theorem HopI.pa {P P' : Pa} {hs : Nat → HostS} (h : HopI P hs) (e : P'.N = P.N ∧ P'.nu = P.nu ∧ P'.a = P.a ∧ P'.c = P.c ∧ P'.tx = P.tx) : HopI P' hs := by
  obtain ⟨N, a, g, nu, c, t, pcs, tx⟩ := P'
  obtain ⟨rfl, rfl, rfl, rfl, rfl⟩ : N = P.N ∧ nu = P.nu ∧ a = P.a ∧ c = P.c ∧ tx = P.tx := e
  exact ⟨h.num, h.at_, h.oth, h.gvn, h.came⟩
theorem M0.pa {P P' : Pa} {hs : Nat → HostS} {r : Rec} (h : M0 P hs r) (e : P'.N = P.N ∧ P'.nu = P.nu ∧ P'.c = P.c) : M0 P' hs r := by
  obtain ⟨N, a, g, nu, c, t, pcs, tx⟩ := P'
  obtain ⟨rfl, rfl, rfl⟩ : N = P.N ∧ nu = P.nu ∧ c = P.c := e
  exact h
end Rel

namespace Rel
open PySem PySem.Spec PyProof.Rows L2 Evl
section
variable {K : PySem.W.Frag} {σ : L2.St} {H : Hp} {tl te : TE} {tt : TT} {vs : List Nat} {a : Addr} {xs : List V}
/-- a comprehension over a list of any values, its elements data -/
theorem ed_lcV {n : Nat} {j : Nat} (h : Ev tl σ H (.ref a)) (ha : H a = some (.lst xs)) (hn : xs.length = n) (hz : n ≤ 40000) (hw : ∀ x, wipe ((wipe σ vs).set j (some x)) vs = wipe σ vs) (f : Nat → Bool) (d : Nat → PyData)
    (ht : ∀ (i : Nat) (x : V), xs[i]? = some x → EvT tt ((wipe σ vs).set j (some x)) H (f i))
    (he : ∀ (i : Nat) (x : V), xs[i]? = some x → f i = true → EvD te ((wipe σ vs).set j (some x)) H (d i)) : EvD (tLc (iList K tl) (gName j) tt te vs) σ H (.list (givenD n f d)) := fun H1 e Q q =>
  h H1 e _ fun H2 e2 => by
    subst hn
    have ha2 := e2 _ _ (e _ _ ha)
    refine ⟨a, rfl, ⟨xs, sq_of ha2⟩, fun D hD => ?_⟩
    refine lc_ed (H := H) (walk_list (xs := xs)) f d hz (e.trans e2) (fun H3 e3 => sq_of (e3 _ _ ha2)) ?_ hD (fun H' e' hd' => q _ _ (e2.trans e') (hd'.anti (Nw.sub e2)))
    rintro i x H3 H4 hi e3 ⟨rfl, hx⟩ R hR
    exact hR _ _ (Ex.refl _) (hw x) (ht i x hx) (he i x hx)
/-- the same, with the places -/
theorem ed_lcE {n : Nat} {ta : TA} {j k : Nat} (h : EvA ta σ H [.ref a]) (ha : H a = some (.lst xs)) (hn : xs.length = n) (hz : n ≤ 40000) (hw : ∀ x y, wipe (((wipe σ vs).set j (some x)).set k (some y)) vs = wipe σ vs) (f : Nat → Bool) (d : Nat → PyData)
    (ht : ∀ (i : Nat) (x : V), xs[i]? = some x → EvT tt (((wipe σ vs).set j (some (.int (i : Nat)))).set k (some x)) H (f i))
    (he : ∀ (i : Nat) (x : V), xs[i]? = some x → f i = true → EvD te (((wipe σ vs).set j (some (.int (i : Nat)))).set k (some x)) H (d i)) : EvD (tLc (iEnum K ta) (gTup K 2 (gCons (gName j) (gCons (gName k) gNil))) tt te vs) σ H (.list (givenD n f d)) := fun H1 e Q q =>
  h H1 e _ fun H2 e2 => by
    subst hn
    have ha2 := e2 _ _ (e _ _ ha)
    refine ⟨a, xs, rfl, sq_of ha2, fun D hD => ?_⟩
    refine lc_ed (H := H) (walk_enum (xs := xs)) f d hz (e.trans e2) (fun H3 e3 => sq_of (e3 _ _ ha2)) ?_ hD (fun H' e' hd' => q _ _ (e2.trans e') (hd'.anti (Nw.sub e2)))
    rintro i x H3 H4 hi e3 ⟨U, x0, y0, rfl, hU, rfl, hx, hy⟩ R hR
    cases hx
    refine g_pair upd_same ?_
    exact hR _ _ (Ex.new hU) (hw _ _) (ht i y0 hy) (he i y0 hy)
theorem cutV_sub {α : Type} {f : α → V} {l : List α} {lo hi : Option Int} : ∃ l' : List α, cutV (l.map f) lo hi = l'.map f ∧ ∀ x ∈ l', x ∈ l := by
  unfold cutV
  refine ⟨(l.drop _).take _, by rw [List.map_take, List.map_drop], fun x hx => ?_⟩
  exact List.mem_of_mem_drop (List.mem_of_mem_take hx)
end
end Rel

namespace Rel
open PySem PySem.Spec PyProof.Rows L2 Evl
section
variable {K : PySem.W.Frag} {C pt pn ph po : Addr} {N : Nat} {nu : Nat → Int} {ad : Nat → Addr} {b : Int} {hs : Nat → HostS} {os ms : List (Addr × Rec)} {H : Hp} {σ : L2.St} {Q : VK} {E : XK} {te : TE} {ta : TA} {D : Ends}
/-- a method's call: where the host stands first, then the arguments -/
theorem t_meth {sp : Sp} {m : Str} {j : Nat} (W : Wd C pt pn ph po N nu ad b hs os ms H) (hj : j < N) (h : Ev te σ H (.ref (ad j))) (k : ∀ H1, Ex H H1 → ta σ H1 fun vs H2 => sp (.ref (ad j) :: (vs ++ [])) H2 Q E)
    (hm : m ∈ (["number", "phase", "hop", "running", "begin", "freeze", "resume", "receive", "take_answer", "leave", "take_piece", "is_whole", "take_go", "messages"] : List Str) := by simp) : tMeth C m sp [] E te ta σ H Q :=
  h H (Ex.refl H) _ fun H1 e1 => by
    obtain ⟨td, pl, hh, _⟩ := (W.ex e1).host hj
    obtain ⟨⟨dx, cm, p1, _⟩, _⟩ := hh
    exact ⟨ad j, dx, _, rfl, p1, fl_no hm, k H1 e1⟩
/-- what a host tells -/
theorem msgs_at {j : Nat} (W : Wd C pt pn ph po N nu ad b hs os ms H) (hj : j < N) (h : Ev te σ H (.ref (ad j))) (hp : (hs j).pieces.length ≤ 1000) (k : ∀ q xs H', H q = none → Ex H H' → H' q = some (.lst xs) → DaAll N0 H' xs (hs j).msgsD → Q (.ref q) H') : tMeth C "messages" (spMsgs C) [] E te tNil σ H Q :=
  t_meth W hj h fun H1 e1 => t_nil (by
    obtain ⟨td, pl, hh, _⟩ := (W.ex e1).host hj
    exact ⟨ad j, td, pl, hs j, rfl, hh, hp, fun q xs H' hq e' h1 h2 => k q xs H' (fresh_back e1 hq) (e1.trans e') h1 h2⟩)
/-- a list is let in at the end of old_so -/
theorem s_appO {tb tc td : TE} {x y : Int} {v : V} {m : Msg} (W : Wd C pt pn ph po N nu ad b hs os os H) (ho : Ev te σ H (.ref po)) (h1 : Ev tb σ H (.int x)) (h2 : Ev tc σ H (.int y)) (h3 : Ev td σ H v) (hv : Da N0 H v m.d) (hz : os.length < sizeLine)
    (k : ∀ (q : Addr) H', Wd C pt pn ph po N nu ad b hs (os ++ [(q, ⟨x, y, m⟩)]) (os ++ [(q, ⟨x, y, m⟩)]) H' → But po H H' → D.nx σ H') :
    tDrop (tBM K "list" rAppend te (tCons (tLst (tCons tb (tCons tc (tCons td tNil)))) tNil)) D σ H :=
  ho H (Ex.refl H) _ fun H1 e1 => ⟨Or.inl ⟨rfl, _, sq_of (e1 _ _ W.old)⟩, h1 H1 e1 _ fun H2 e2 => h2 H2 (e1.trans e2) _ fun H3 e3 => h3 H3 ((e1.trans e2).trans e3) _ fun H4 e4 => ⟨by show 3 ≤ sizeLine; decide, fun q hq => by
    have e := ((e1.trans e2).trans e3).trans e4
    have W4 := W.ex (e.trans (Ex.new hq (o := .lst [.int x, .int y, v])))
    have hR : RecAt (upd H4 q (.lst [.int x, .int y, v])) q ⟨x, y, m⟩ := ⟨v, upd_same, hv.ex (e.trans (Ex.new hq))⟩
    have hq0 := fresh_back e hq
    have n1 : q ≠ pt := by rintro rfl; exact W.tin.some hq0
    have n2 : q ≠ po := by rintro rfl; rw [W.old] at hq0; cases hq0
    have W5 := W4.more (ms' := [(q, ⟨x, y, m⟩)]) fun z hz => by rw [List.mem_singleton.mp hz]; exact ⟨hR, n1, n2⟩
    have W6 := (W5.app (q := (q, ⟨x, y, m⟩)) (List.mem_append_right _ (List.mem_singleton.mpr rfl))).less
    refine ⟨po, _, _, rfl, rfl, W4.old, by rw [List.length_map]; exact hz, k q _ W6 (((But.of_ex (e.trans (Ex.new hq)))).trans But.upd)⟩⟩⟩
end
end Rel
namespace Rel
open PySem PySem.Spec PyProof.Rows L2 Evl
theorem upd1_upd1 {hs : Nat → HostS} {j : Nat} {s s' : HostS} : upd1 (upd1 hs j s) j s' = upd1 hs j s' := funext fun i => by
  unfold upd1
  by_cases e : i = j
  · rw [if_pos e, if_pos e]
  · rw [if_neg e, if_neg e, if_neg e]
theorem noLs_recs (l : List (Int × Msg)) : noLs (l.map recD) = true := noLs_map fun q _ => by
  show noLs [.int q.1, q.2.d] = true
  simp [noLs, noL, noL_msg]
theorem noLs_take {ds : List PyData} (h : noLs ds = true) (n : Nat) : noLs (ds.take n) = true := by
  induction ds generalizing n with
  | nil => rw [List.take_nil]; rfl
  | cons d ds ih =>
    have h' : noL d = true ∧ noLs ds = true := by simpa [noLs] using h
    cases n with
    | zero => rfl
    | succ n => simp [noLs, h'.1, ih h'.2 n]
/-- a told record -/
theorem recD_inv {H : Hp} {x : V} {rq : Int × Msg} (h : Da N0 H x (recD rq)) : ∃ U v, x = .ref U ∧ H U = some (.tup [.int rq.1, v]) ∧ Da N0 H v rq.2.d := by
  obtain ⟨U, xs, rfl, h1, _, h2⟩ := h.tup_inv
  cases h2 with
  | cons a r => cases r with
    | cons b r =>
      cases r
      rw [a.int_inv] at h1
      exact ⟨U, _, rfl, h1, b⟩
end Rel
namespace Rel
open PySem
theorem sz_lt' {n : Nat} (h : n < 16000000) : n < sizeLine := Nat.lt_of_lt_of_le h (by decide)
end Rel
namespace Rel
open PySem PySem.Spec PyProof.Rows L2 Evl
theorem filter_one {N g : Nat} (hg : g < N) : (List.range N).filter (fun k => decide (k = g)) = [g] := by
  induction N with
  | zero => omega
  | succ n ih =>
    rw [List.range_succ, List.filter_append]
    by_cases e : g = n
    · subst e
      have h0 : (List.range g).filter (fun k => decide (k = g)) = [] := by
        rw [List.filter_eq_nil_iff]
        intro k hk
        have := List.mem_range.mp hk
        simp
        omega
      rw [h0]
      simp
    · rw [ih (by omega)]
      have : ([n] : List Nat).filter (fun k => decide (k = g)) = [] := by
        simp
        omega
      rw [this]
      rfl
theorem run_f3 {P : Pa} {hs : Nat → HostS} (I : Inv P hs) (R : Run P hs) : F3 P (hs P.g) := by
  rcases I.far with f | f | f
  · exact absurd R f.nrun
  · exact absurd (f.1.symm.trans R) ph2
  · exact f
/-- who runs -/
theorem run_only {P : Pa} {hs : Nat → HostS} (I : Inv P hs) {k : Nat} (hk : k < P.N) (h : (hs k).phase = "runs") : k = P.g := by
  by_cases ka : k = P.a
  · subst ka
    obtain ⟨_, _, _, z | z | z⟩ := I.near
    · exact absurd (h.symm.trans z.1) ph9
    · exact absurd (h.symm.trans z.1) ph8
    · exact absurd (h.symm.trans z.1) ph7
  · by_cases kg : k = P.g
    · exact kg
    · rcases (I.oth k hk ka kg).2.2 with q | q
      · exact absurd (h.symm.trans q) ph7
      · exact absurd (h.symm.trans q) ph8
theorem running_at {P : Pa} {hs : Nat → HostS} (I : Inv P hs) (R : Run P hs) {k : Nat} (hk : k < P.N) : (hs k).running = if k = P.g then some P.tx else none := by
  unfold HostS.running
  by_cases e : k = P.g
  · subst e
    rw [if_pos rfl, if_pos (show (hs P.g).phase = "runs" from R)]
    exact (run_f3 I R).2.2.2.1
  · rw [if_neg e, if_neg fun h => e (run_only I hk h)]
end Rel
namespace Rel
open PySem PySem.Spec PyProof.Rows L2 Evl
theorem rng_inv {α : Type} {N k : Nat} {f : Nat → α} {x : α} (h : ((List.range N).map f)[k]? = some x) : k < N ∧ x = f k := by
  have hk : k < N := by
    by_cases q : k < N
    · exact q
    · rw [List.getElem?_eq_none (by rw [List.length_map, List.length_range]; omega)] at h; cases h
  rw [rng_get hk] at h
  exact ⟨hk, (Option.some.inj h).symm⟩
section
variable {K : PySem.W.Frag} {C pt pn ph po : Addr} {N : Nat} {nu : Nat → Int} {ad : Nat → Addr} {b : Int} {hs : Nat → HostS} {os ms : List (Addr × Rec)} {H : Hp} {σ : L2.St} {E : XK} {te tx : TE} {tt : TT} {vs : List Nat}
/-- nothing of what a host tells is taken -/
theorem ed_noMsgs {j c : Nat} (W : Wd C pt pn ph po N nu ad b hs os ms H) (hj : j < N) (h : Ev te σ H (.ref (ad j))) (hp : (hs j).pieces.length ≤ 1000) (hg : (hs j).phase = "frozen" ∨ (hs j).phase = "given" → (hs j).goal ≠ none) (hw : ∀ x, wipe ((wipe σ vs).set c (some x)) vs = wipe σ vs)
    (ht : ∀ (rq : Int × Msg), rq ∈ (hs j).recs → ∀ (x : V) (Hb : Hp), Ex H Hb → Da N0 Hb x (recD rq) → EvT tt ((wipe σ vs).set c (some x)) Hb false) : EvD (tLc (iList K (tMeth C "messages" (spMsgs C) [] E te tNil)) (gName c) tt tx vs) σ H (.list []) := fun H1 e Q q =>
  msgs_at (W.ex e) hj (h.mono e) hp fun l xs H2 hl e2 h2 d2 => by
    rw [msgs_recs hg] at d2
    refine ⟨l, rfl, ⟨xs, sq_of h2⟩, fun D hD => ?_⟩
    refine lc_on (H0 := upd H2 D (.lst [])) (walk_list (K := K) (a := l) (xs := xs)) (fun i H' => H' D = some (.lst []) ∧ Ex H2 H') ⟨upd_same, Ex.new hD⟩ (fun i H' hi p => sq_of (p.2 _ _ h2)) ?_ (fun H' p => q _ H' (e2.trans p.2) (.lst p.1 (Nw.new e2 hD) .nil))
    rintro i x H' H3 hi ⟨p1, p2⟩ ⟨rfl, hx⟩
    obtain ⟨d, hd1, hd2⟩ := (d2.ex p2).get hx
    obtain ⟨rq, hrq, rfl⟩ := List.mem_map.mp (List.mem_of_getElem? hd1)
    exact ⟨hw x, t_tst (b := false) (ht rq hrq x H3 ((e.trans e2).trans p2) hd2) (fun z => nomatch z) fun _ H4 e4 => ⟨e4 _ _ p1, p2.trans e4⟩⟩
end
end Rel
namespace Rel
open PySem PySem.Spec PyProof.Rows L2 Evl
section
variable {σ : L2.St} {H : Hp} {t u : TT} {tu tw : TS} {D : Ends} {b : Bool} {QT : Bool → Hp → Prop} {te : TE}
theorem t_tt (h : EvT t σ H b) (k : ∀ H1, Ex H H1 → QT b H1) : t σ H QT := h H (Ex.refl H) _ k
theorem s_ifK (h : t σ H fun b H1 => if b = true then tu D σ H1 else tw D σ H1) : tIfS t tu tw D σ H := h
theorem t_orK (h : t σ H fun b H1 => if b = true then QT true H1 else u σ H1 QT) : tOr t u σ H QT := h
end
end Rel
namespace Rel
open PySem PySem.Spec PyProof.Rows L2 Evl
theorem t_testK {σ : L2.St} {H : Hp} {te : TE} {QT : Bool → Hp → Prop} (h : te σ H fun x H' => ∃ k, x = .bl k ∧ QT k H') : tTest te σ H QT := h
end Rel
namespace Rel
open PySem PySem.Spec PyProof.Rows L2 Evl
def recL (r : Rec) : PyData := .list [.int r.snd, .int r.dst, r.m.d]
theorem recL_lay {r : Rec} (h : r.m.ok) : (recL r).canLay0 = true := by
  obtain ⟨snd, dst, m⟩ := r
  cases m with
  | piece a b c d z =>
    have hz : okS z = true := h.2.2.2.2.2.2
    have hz' : PyData.strOk z = true := hz
    simp [recL, Msg.d, Msg.items, PyData.canLay0, PyData.canLayAll0]
    exact ⟨by decide +kernel, hz'⟩
  | whole a b => simp [recL, Msg.d, Msg.items, PyData.canLay0, PyData.canLayAll0]; decide +kernel
  | go a b => simp [recL, Msg.d, Msg.items, PyData.canLay0, PyData.canLayAll0]; decide +kernel
  | going a b => simp [recL, Msg.d, Msg.items, PyData.canLay0, PyData.canLayAll0]; decide +kernel
theorem recL_depth (r : Rec) : (recL r).depth ≤ 4 := by
  obtain ⟨snd, dst, m⟩ := r
  cases m <;> simp [recL, Msg.d, Msg.items, PyData.depth, PyData.depthAll]
theorem recLs_shaped : ∀ {l : List Rec}, (∀ r ∈ l, r.m.ok) → SeqAt.shaped (.list (l.map recL)) = true := by
  intro l h
  have h1 : PyData.canLayAll0 (l.map recL) = true := by
    induction l with
    | nil => simp [PyData.canLayAll0]
    | cons r l ih => simp [PyData.canLayAll0, recL_lay (h r List.mem_cons_self), ih fun x hx => h x (List.mem_cons_of_mem _ hx)]
  have h2 : PyData.depthAll (l.map recL) ≤ 4 := by
    clear h h1
    induction l with
    | nil => simp [PyData.depthAll]
    | cons r l ih =>
      have := recL_depth r
      simp only [List.map_cons, PyData.depthAll]
      omega
  show (PyData.canLay0 (.list (l.map recL)) && decide (PyData.depth (.list (l.map recL)) ≤ 64)) = true
  rw [Bool.and_eq_true]
  refine ⟨by simp only [PyData.canLay0]; exact h1, decide_eq_true ?_⟩
  simp only [PyData.depth]
  omega
theorem RecAt.da {H : Hp} {a : Addr} {r : Rec} (h : RecAt H a r) : Da N0 H (.ref a) (recL r) := by
  obtain ⟨v, h1, h2⟩ := h
  exact .lst h1 id (.cons (.int _) (.cons (.int _) (.cons h2 .nil)))
theorem Wd.oldD {C pt pn ph po : Addr} {N : Nat} {nu : Nat → Int} {ad : Nat → Addr} {b : Int} {hs : Nat → HostS} {os ms : List (Addr × Rec)} {H : Hp} (w : Wd C pt pn ph po N nu ad b hs os ms H) : Da N0 H (.ref po) (.list ((os.map (·.2)).map recL)) := by
  refine .lst w.old id ?_
  have : ∀ l : List (Addr × Rec), (∀ q ∈ l, q ∈ os) → DaAll N0 H (l.map fun q => V.ref q.1) ((l.map (·.2)).map recL) := by
    intro l
    induction l with
    | nil => intro _; exact .nil
    | cons q l ih => intro hl; exact .cons (w.msg q (w.sub q (hl q List.mem_cons_self))).1.da (ih fun x hx => hl x (List.mem_cons_of_mem _ hx))
  exact this os fun q hq => hq
theorem eqv_nil (l : List PyData) : PyData.eqv (.list l) (.list []) = l.isEmpty := by
  cases l <;> simp [PyData.eqv, PyData.eqvAll]
end Rel
namespace Rel
open PySem PySem.Spec PyProof.Rows L2 Evl
theorem filter_sub {N x : Nat} {f : Nat → Bool} (h : ∀ i, i < N → f i = true → i = x) : (List.range N).filter f = [] ∨ (List.range N).filter f = [x] := by
  by_cases c : x < N ∧ f x = true
  · right
    rw [← filter_one c.1]
    refine List.filter_congr fun i hi => ?_
    have hi' := List.mem_range.mp hi
    by_cases e : i = x
    · subst e; rw [c.2, decide_eq_true rfl]
    · rw [decide_eq_false e]
      cases hf : f i with
      | false => rfl
      | true => exact absurd (h i hi' hf) e
  · left
    rw [List.filter_eq_nil_iff]
    intro i hi hf
    have hi' := List.mem_range.mp hi
    have := h i hi' hf
    subst this
    exact c ⟨hi', hf⟩
/-- who runs or is frozen: the near or the far host, not both -/
theorem runs_one {P : Pa} {hs : Nat → HostS} (I : Inv P hs) {f : Nat → Bool} (hf : ∀ i, i < P.N → f i = true → (hs i).phase = "runs" ∨ (hs i).phase = "frozen") :
    (List.range P.N).filter f = [] ∨ (List.range P.N).filter f = [P.a] ∨ (List.range P.N).filter f = [P.g] := by
  have key : ∀ i, i < P.N → f i = true → (i = P.a ∧ (hs P.a).phase = "frozen") ∨ (i = P.g ∧ Run P hs) := fun i hi h => by
    by_cases ia : i = P.a
    · subst ia
      refine .inl ⟨rfl, ?_⟩
      rcases hf _ hi h with q | q
      · exfalso
        obtain ⟨_, _, _, z | z | z⟩ := I.near
        · exact ph9 (q.symm.trans z.1)
        · exact ph8 (q.symm.trans z.1)
        · exact ph7 (q.symm.trans z.1)
      · exact q
    · by_cases ig : i = P.g
      · subst ig
        refine .inr ⟨rfl, ?_⟩
        rcases hf _ hi h with q | q
        · exact q
        · exfalso
          rcases I.far with z | z | z
          · rcases z.1 with z | z
            · exact ph3 (z.symm.trans q)
            · exact ph6 (z.symm.trans q)
          · exact ph3 (z.1.symm.trans q)
          · exact ph9 (z.1.symm.trans q)
      · exfalso
        rcases (I.oth i hi ia ig).2.2 with z | z
        · rcases hf _ hi h with q | q
          · exact ph2 (z.symm.trans q)
          · exact ph3 (z.symm.trans q)
        · rcases hf _ hi h with q | q
          · exact ph5 (z.symm.trans q)
          · exact ph6 (z.symm.trans q)
  by_cases fr : (hs P.a).phase = "frozen"
  · rcases filter_sub (N := P.N) (x := P.a) (f := f) (fun i hi h => by
      rcases key i hi h with q | q
      · exact q.1
      · exact absurd fr (I.run q.2)) with q | q
    · exact .inl q
    · exact .inr (.inl q)
  · rcases filter_sub (N := P.N) (x := P.g) (f := f) (fun i hi h => by
      rcases key i hi h with q | q
      · exact absurd q.2 fr
      · exact q.1) with q | q
    · exact .inl q
    · exact .inr (.inr q)
theorem in_runs {z : Str} : inV (V.str z) [.str "runs", .str "frozen"] = true → z = "runs" ∨ z = "frozen" := by
  intro h
  unfold inV at h
  simp only [List.any_cons, List.any_nil, Bool.or_false, Bool.or_eq_true] at h
  rcases h with h | h
  · left
    have : ("runs" : Str) = z := by simpa [eqV] using h
    exact this.symm
  · right
    have : ("frozen" : Str) = z := by simpa [eqV] using h
    exact this.symm
theorem in_two {i j k : Int} (h : k = i ∨ k = j) : inV (V.int k) [.int i, .int j] = true := by
  unfold inV
  simp only [List.any_cons, List.any_nil, Bool.or_false, Bool.or_eq_true]
  rcases h with rfl | rfl
  · left; simp [eqV]
  · right; simp [eqV]
end Rel
end
section
/-! a target with a star; a giver and a taker -/
namespace Rel
open PySem PySem.Spec PyProof.Rows L2 Evl
def gStar (K : PySem.W.Frag) (n i : Nat) (t : TGs) : TG := fun v σ H Q => ∃ a xs, v = .ref a ∧ SqT K H a xs ∧ i < n ∧ n ≤ xs.length + 1 ∧ xs.length ≤ 16384 ∧
  ∀ D, H D = none → t (xs.take i ++ [.ref D] ++ (xs.drop i).drop (xs.length + 1 - n)) σ (upd H D (.lst ((xs.drop i).take (xs.length + 1 - n)))) Q
theorem pgs_star {X : Cx} {e : Expr} {es : List Expr} {p : Pos} {t : TG} {u : TGs} (h1 : PG X e t) (h2 : PGs X es u)
    (hs : (assignEach (.Starred e p :: es) X.env).map (·.2) = assign e X.env :: (assignEach es X.env).map (·.2) := by rfl) : PGs X (.Starred e p :: es) (gCons t u) := by
  refine ⟨fun pins s σ H vs us Q I r h => ?_⟩
  obtain ⟨v, vr, e1, h⟩ := h
  subst e1
  cases r with
  | cons r rr =>
    rw [hs]
    refine assignInOrder_cons (thn (h1.run pins s σ H _ _ _ I r h) fun _ s1 ⟨σ1, H1, I1, q1⟩ => ?_)
    exact h2.run pins s1 σ1 H1 _ _ _ I1 rr q1
theorem vals_take {xs : List V} {us : List Value} (h : Vals xs us) : ∀ n, Vals (xs.take n) (us.take n) := by
  induction h with
  | nil => intro n; rw [List.take_nil, List.take_nil]; exact .nil
  | cons r rr ih =>
    intro n
    cases n with
    | zero => exact .nil
    | succ n => exact .cons r (ih n)
theorem vals_drop {xs : List V} {us : List Value} (h : Vals xs us) : ∀ n, Vals (xs.drop n) (us.drop n) := by
  induction h with
  | nil => intro n; rw [List.drop_nil, List.drop_nil]; exact .nil
  | cons r rr ih =>
    intro n
    cases n with
    | zero => exact .cons r rr
    | succ n => exact ih n
theorem vals_app {xs ys : List V} {us vs : List Value} (h : Vals xs us) (h2 : Vals ys vs) : Vals (xs ++ ys) (us ++ vs) := by
  induction h with
  | nil => exact h2
  | cons r rr ih => exact .cons r ih
theorem pg_star {X : Cx} {es : List Expr} {k : Nat} {pos : Pos} {t : TGs} {n i : Nat} (hc : X.calm = true) (h : PGs X es t)
    (hn : (assignEach es X.env).length = n := by rfl) (hst : (assignEach es X.env).findIdx? (·.1) = some i := by rfl) : PG X (.Tuple es k pos) (gStar X.K n i t) := by
  refine ⟨fun pins s σ H v u Q I r hw => ?_⟩
  obtain ⟨a, xs, e1, hq, hi, hn2, hz, hw⟩ := hw
  subst e1
  cases r
  obtain ⟨its0, rv, ht, _⟩ := I.tuple hq
  have hlen : its0.length = xs.length := rv.length.symm
  rw [assign_Tuple]
  refine wpAny_bind (wpAny_standAt ?_)
  unfold unpack
  rw [hn, hst]
  refine wpAny_bind (wpAny_holding ?_)
  have hh := I.ok.hd hc
  have hlt : a ≠ s.heap.objs.size := by obtain ⟨o, ho, _⟩ := ht; exact Nat.ne_of_lt (Heap.lt_size ho)
  unfold unpackItems
  refine wpAny_bind ?_
  unfold notIterableAtAll
  refine wpAny_bind (wpAny_specialOf ht.typeIs slot_tuple_iter.lookup ?_)
  refine wpAny_pure ?_
  simp only [Bool.false_eq_true, if_false]
  have hsz : its0.toArray.size = xs.length := by simpa using hlen
  refine wpAny_bind (wpAny_holding (iter_tuple ht ?_))
  refine wpAny_bind (wpAny_holding (draw_tuple hlt i 0 _ _ ⟨_, Heap.get?_push_size _ rfl, rfl, rfl⟩ (ht.push _) (by omega) fun h₁ hit₁ hs₁ => ?_))
  have hl₁ : IsTup h₁ a its0.toArray := (ht.push _).extBut hs₁.extBut hlt
  rw [Nat.zero_add] at hit₁
  have hit₁' := hit₁
  obtain ⟨oi, hoi, _⟩ := hit₁'
  have hl₁' := hl₁
  obtain ⟨ol, hol, _⟩ := hl₁'
  rw [List.drop_zero]
  have hfl : (its0.toArray.toList.take i).length = i := by rw [List.length_take, Array.length_toList]; omega
  rw [if_neg (show ¬ ((its0.toArray.toList.take i).length < i) by rw [hfl]; omega)]
  refine wpAny_bind (wpAny_holding (PySem.W.kun_collect (s := { s with heap := h₁ }) (T := "tuple_iterator") (.inr (.inr (.inr rfl))) (Walks.tuple (A := X.A.in1) hh s.heap.objs.size a hlt its0.toArray) (fun j u st => st.1.typeIs) (k := i) (by omega) ⟨hit₁, hl₁⟩ (Heap.lt_size hoi) (Heap.lt_size hol) (fun h₂ tk hk => ?_) (by rw [sizeLine_eq]; omega)))
  have hrl : (its0.toArray.toList.drop i).length = xs.length - i := by rw [List.length_drop, Array.length_toList, hsz]
  have hmid : (its0.toArray.toList.drop i).length - (n - 1 - i) = xs.length + 1 - n := by rw [hrl]; omega
  show wpAny _ _ (if (its0.toArray.toList.drop i).length < n - 1 - i then _ else _) _ _ _
  rw [if_neg (by rw [hrl]; omega)]
  show wpAny _ _ (newList ((its0.toArray.toList.drop i).take ((its0.toArray.toList.drop i).length - (n - 1 - i))) >>= fun d => pure (its0.toArray.toList.take i ++ [d] ++ (its0.toArray.toList.drop i).drop ((its0.toArray.toList.drop i).length - (n - 1 - i)))) _ _ _
  rw [hmid]
  have he : ∀ b u, s.heap.get? b = some u → h₂.get? b = some u := fun b o e => hk b o (Nat.ne_of_lt (Heap.lt_size e)) (hs₁.extBut b o (Nat.ne_of_lt (Heap.lt_size e)) (Heap.get?_push_of_some _ e))
  have I1 : L2.Inv X pins σ H { s with heap := h₂, toks := tk } := I.kept he
  have hml : ((xs.drop i).take (xs.length + 1 - n)).length ≤ sizeLine := by
    rw [List.length_take, List.length_drop, sizeLine_eq]; omega
  have hmv : Vals ((xs.drop i).take (xs.length + 1 - n)) ((its0.toArray.toList.drop i).take (xs.length + 1 - n)) := by
    simpa using vals_take (vals_drop rv i) (xs.length + 1 - n)
  refine wpAny_bind (wpAny_newList ?_ (by rw [← hmv.length]; exact hml))
  refine wpAny_pure ?_
  have hD : H h₂.objs.size = none := I1.hok.fresh (Nat.le_refl _)
  have I2 : L2.Inv X pins σ (upd H h₂.objs.size (.lst ((xs.drop i).take (xs.length + 1 - n)))) { s with heap := h₂.push (seqObj "list" ((its0.toArray.toList.drop i).take (xs.length + 1 - n)).toArray 0), toks := tk } :=
    I1.laid (t' := tk) (fun b u e => Heap.get?_push_of_some _ e) (Nat.le_refl _) ⟨hml, _, 0, hmv, Heap.get?_push_size _ rfl⟩
  refine h.run pins _ σ _ _ _ Q I2 ?_ (hw _ hD)
  refine vals_app (vals_app (by simpa using vals_take rv i) (.cons rfl .nil)) (by simpa using vals_drop (vals_drop rv i) (xs.length + 1 - n))
end Rel
namespace Rel
open PySem PySem.Spec PyProof.Rows L2 Evl
/-! ### a giver and a taker between two calls -/
structure GiverS where
  phase : Str
  number : Int
  pieces : List Str
  known : Bool
structure TakerS where
  number : Int
  many : Int
  pieces : List (Int × Str)
  runs : Bool
def gfl (pl : Addr) (s : GiverS) : List (Str × V) := [("own_phase", .str s.phase), ("own_number", .int s.number), ("own_pieces", .ref pl), ("own_is_known", .bl s.known)]
def tfl (td : Addr) (s : TakerS) : List (Str × V) := [("own_number", .int s.number), ("own_many", .int s.many), ("own_pieces", .ref td), ("own_runs", .bl s.runs)]
structure GA (C dx : Addr) (H : Hp) (p pl : Addr) (s : GiverS) : Prop where
  p_ : H p = some (.ins C dx (gfl pl s))
  l_ : H pl = some (.lst (s.pieces.map V.str))
structure KA (C dx : Addr) (H : Hp) (p td : Addr) (s : TakerS) : Prop where
  p_ : H p = some (.ins C dx (tfl td s))
  t_ : H td = some (.dK (s.pieces.map keyT))
def GiverAt (C : Addr) (H : Hp) (p pl : Addr) (s : GiverS) : Prop := ∃ dx, GA C dx H p pl s
def TakerAt (C : Addr) (H : Hp) (p td : Addr) (s : TakerS) : Prop := ∃ dx, KA C dx H p td s
theorem GA.ex {C dx p pl : Addr} {H H' : Hp} {s : GiverS} (h : GA C dx H p pl s) (e : Ex H H') : GA C dx H' p pl s := ⟨e _ _ h.p_, e _ _ h.l_⟩
theorem KA.ex {C dx p td : Addr} {H H' : Hp} {s : TakerS} (h : KA C dx H p td s) (e : Ex H H') : KA C dx H' p td s := ⟨e _ _ h.p_, e _ _ h.t_⟩
theorem GiverAt.ex {C p pl : Addr} {H H' : Hp} {s : GiverS} (h : GiverAt C H p pl s) (e : Ex H H') : GiverAt C H' p pl s := let ⟨dx, h⟩ := h; ⟨dx, h.ex e⟩
theorem TakerAt.ex {C p td : Addr} {H H' : Hp} {s : TakerS} (h : TakerAt C H p td s) (e : Ex H H') : TakerAt C H' p td s := let ⟨dx, h⟩ := h; ⟨dx, h.ex e⟩
section
variable {pl : Addr} {s : GiverS}
theorem gl_phase : (gfl pl s).lookup ("own_phase" : Str) = some (V.str s.phase) := by kernel_rfl
theorem gu_phase (z : Str) : putF "own_phase" (V.str z) (gfl pl s) = gfl pl { s with phase := z } := by kernel_rfl
theorem gl_number : (gfl pl s).lookup ("own_number" : Str) = some (V.int s.number) := by kernel_rfl
theorem gu_number (z : Int) : putF "own_number" (V.int z) (gfl pl s) = gfl pl { s with number := z } := by kernel_rfl
theorem gl_is_known : (gfl pl s).lookup ("own_is_known" : Str) = some (V.bl s.known) := by kernel_rfl
theorem gu_is_known (z : Bool) : putF "own_is_known" (V.bl z) (gfl pl s) = gfl pl { s with known := z } := by kernel_rfl
theorem gl_pieces : (gfl pl s).lookup ("own_pieces" : Str) = some (V.ref pl) := by kernel_rfl
theorem gu_pieces (q : Addr) : putF "own_pieces" (.ref q) (gfl pl s) = gfl q s := by kernel_rfl
theorem gl_len : (gfl pl s).length < 1000 := by show 4 < 1000; decide
theorem gl_no {m : Str} (h : m ∈ (["phase", "freeze", "resume", "receive", "messages"] : List Str)) : (gfl pl s).lookup m = none := by
  have e : ∀ m ∈ (["phase", "freeze", "resume", "receive", "messages"] : List Str), ∀ q ∈ (["own_phase", "own_number", "own_pieces", "own_is_known"] : List Str), (m == q) = false := by decide +kernel
  have g := e m h
  unfold gfl
  simp only [List.lookup_cons]
  rw [g _ (by simp), g _ (by simp), g _ (by simp), g _ (by simp)]
  rfl
end
section
variable {K : PySem.W.Frag} {σ : L2.St} {H : Hp} {te tv : TE} {p C dx pl : Addr} {s : GiverS} {D : Ends} {tz : TS} {Q : L2.St → Hp → Prop}
theorem gS_phase {z : Str} (hc : Cls K C) (hn : NoAttr K C "own_phase") (hv : Ev tv σ H (V.str z)) (he : Ev te σ H (.ref p)) (h : GA C dx H p pl s) (k : ∀ H', GA C dx H' p pl { s with phase := z } → But p H H' → D.nx σ H') : sFld K te tv "own_phase" D σ H :=
  s_fld hv he h.p_ hc hn gl_len fun H' h' b => k H' ⟨by rw [gu_phase] at h'; exact h', b.at h.p_ h.l_ (by intro z; cases z)⟩ b
theorem gQ_phase {z : Str} (hc : Cls K C) (hn : NoAttr K C "own_phase") (hv : Ev tv σ H (V.str z)) (he : Ev te σ H (.ref p)) (h : GA C dx H p pl s) (k : ∀ H', GA C dx H' p pl { s with phase := z } → But p H H' → tz D σ H') : tSeq (sFld K te tv "own_phase") tz D σ H :=
  q_fld hv he h.p_ hc hn gl_len fun H' h' b => k H' ⟨by rw [gu_phase] at h'; exact h', b.at h.p_ h.l_ (by intro z; cases z)⟩ b
theorem gS_number {z : Int} (hc : Cls K C) (hn : NoAttr K C "own_number") (hv : Ev tv σ H (V.int z)) (he : Ev te σ H (.ref p)) (h : GA C dx H p pl s) (k : ∀ H', GA C dx H' p pl { s with number := z } → But p H H' → D.nx σ H') : sFld K te tv "own_number" D σ H :=
  s_fld hv he h.p_ hc hn gl_len fun H' h' b => k H' ⟨by rw [gu_number] at h'; exact h', b.at h.p_ h.l_ (by intro z; cases z)⟩ b
theorem gQ_number {z : Int} (hc : Cls K C) (hn : NoAttr K C "own_number") (hv : Ev tv σ H (V.int z)) (he : Ev te σ H (.ref p)) (h : GA C dx H p pl s) (k : ∀ H', GA C dx H' p pl { s with number := z } → But p H H' → tz D σ H') : tSeq (sFld K te tv "own_number") tz D σ H :=
  q_fld hv he h.p_ hc hn gl_len fun H' h' b => k H' ⟨by rw [gu_number] at h'; exact h', b.at h.p_ h.l_ (by intro z; cases z)⟩ b
theorem gS_is_known {z : Bool} (hc : Cls K C) (hn : NoAttr K C "own_is_known") (hv : Ev tv σ H (V.bl z)) (he : Ev te σ H (.ref p)) (h : GA C dx H p pl s) (k : ∀ H', GA C dx H' p pl { s with known := z } → But p H H' → D.nx σ H') : sFld K te tv "own_is_known" D σ H :=
  s_fld hv he h.p_ hc hn gl_len fun H' h' b => k H' ⟨by rw [gu_is_known] at h'; exact h', b.at h.p_ h.l_ (by intro z; cases z)⟩ b
theorem gQ_is_known {z : Bool} (hc : Cls K C) (hn : NoAttr K C "own_is_known") (hv : Ev tv σ H (V.bl z)) (he : Ev te σ H (.ref p)) (h : GA C dx H p pl s) (k : ∀ H', GA C dx H' p pl { s with known := z } → But p H H' → tz D σ H') : tSeq (sFld K te tv "own_is_known") tz D σ H :=
  q_fld hv he h.p_ hc hn gl_len fun H' h' b => k H' ⟨by rw [gu_is_known] at h'; exact h', b.at h.p_ h.l_ (by intro z; cases z)⟩ b
end
section
variable {td : Addr} {s : TakerS}
theorem kl_number : (tfl td s).lookup ("own_number" : Str) = some (V.int s.number) := by kernel_rfl
theorem ku_number (z : Int) : putF "own_number" (V.int z) (tfl td s) = tfl td { s with number := z } := by kernel_rfl
theorem kl_many : (tfl td s).lookup ("own_many" : Str) = some (V.int s.many) := by kernel_rfl
theorem ku_many (z : Int) : putF "own_many" (V.int z) (tfl td s) = tfl td { s with many := z } := by kernel_rfl
theorem kl_runs : (tfl td s).lookup ("own_runs" : Str) = some (V.bl s.runs) := by kernel_rfl
theorem ku_runs (z : Bool) : putF "own_runs" (V.bl z) (tfl td s) = tfl td { s with runs := z } := by kernel_rfl
theorem kl_pieces : (tfl td s).lookup ("own_pieces" : Str) = some (V.ref td) := by kernel_rfl
theorem ku_pieces (q : Addr) : putF "own_pieces" (.ref q) (tfl td s) = tfl q s := by kernel_rfl
theorem kl_len : (tfl td s).length < 1000 := by show 4 < 1000; decide
theorem kl_no {m : Str} (h : m ∈ (["is_whole", "keep", "receive", "messages", "running"] : List Str)) : (tfl td s).lookup m = none := by
  have e : ∀ m ∈ (["is_whole", "keep", "receive", "messages", "running"] : List Str), ∀ q ∈ (["own_number", "own_many", "own_pieces", "own_runs"] : List Str), (m == q) = false := by decide +kernel
  have g := e m h
  unfold tfl
  simp only [List.lookup_cons]
  rw [g _ (by simp), g _ (by simp), g _ (by simp), g _ (by simp)]
  rfl
end
section
variable {K : PySem.W.Frag} {σ : L2.St} {H : Hp} {te tv : TE} {p C dx td : Addr} {s : TakerS} {D : Ends} {tz : TS} {Q : L2.St → Hp → Prop}
theorem kS_number {z : Int} (hc : Cls K C) (hn : NoAttr K C "own_number") (hv : Ev tv σ H (V.int z)) (he : Ev te σ H (.ref p)) (h : KA C dx H p td s) (k : ∀ H', KA C dx H' p td { s with number := z } → But p H H' → D.nx σ H') : sFld K te tv "own_number" D σ H :=
  s_fld hv he h.p_ hc hn kl_len fun H' h' b => k H' ⟨by rw [ku_number] at h'; exact h', b.at h.p_ h.t_ (by intro z; cases z)⟩ b
theorem kQ_number {z : Int} (hc : Cls K C) (hn : NoAttr K C "own_number") (hv : Ev tv σ H (V.int z)) (he : Ev te σ H (.ref p)) (h : KA C dx H p td s) (k : ∀ H', KA C dx H' p td { s with number := z } → But p H H' → tz D σ H') : tSeq (sFld K te tv "own_number") tz D σ H :=
  q_fld hv he h.p_ hc hn kl_len fun H' h' b => k H' ⟨by rw [ku_number] at h'; exact h', b.at h.p_ h.t_ (by intro z; cases z)⟩ b
theorem kS_many {z : Int} (hc : Cls K C) (hn : NoAttr K C "own_many") (hv : Ev tv σ H (V.int z)) (he : Ev te σ H (.ref p)) (h : KA C dx H p td s) (k : ∀ H', KA C dx H' p td { s with many := z } → But p H H' → D.nx σ H') : sFld K te tv "own_many" D σ H :=
  s_fld hv he h.p_ hc hn kl_len fun H' h' b => k H' ⟨by rw [ku_many] at h'; exact h', b.at h.p_ h.t_ (by intro z; cases z)⟩ b
theorem kQ_many {z : Int} (hc : Cls K C) (hn : NoAttr K C "own_many") (hv : Ev tv σ H (V.int z)) (he : Ev te σ H (.ref p)) (h : KA C dx H p td s) (k : ∀ H', KA C dx H' p td { s with many := z } → But p H H' → tz D σ H') : tSeq (sFld K te tv "own_many") tz D σ H :=
  q_fld hv he h.p_ hc hn kl_len fun H' h' b => k H' ⟨by rw [ku_many] at h'; exact h', b.at h.p_ h.t_ (by intro z; cases z)⟩ b
theorem kS_runs {z : Bool} (hc : Cls K C) (hn : NoAttr K C "own_runs") (hv : Ev tv σ H (V.bl z)) (he : Ev te σ H (.ref p)) (h : KA C dx H p td s) (k : ∀ H', KA C dx H' p td { s with runs := z } → But p H H' → D.nx σ H') : sFld K te tv "own_runs" D σ H :=
  s_fld hv he h.p_ hc hn kl_len fun H' h' b => k H' ⟨by rw [ku_runs] at h'; exact h', b.at h.p_ h.t_ (by intro z; cases z)⟩ b
theorem kQ_runs {z : Bool} (hc : Cls K C) (hn : NoAttr K C "own_runs") (hv : Ev tv σ H (V.bl z)) (he : Ev te σ H (.ref p)) (h : KA C dx H p td s) (k : ∀ H', KA C dx H' p td { s with runs := z } → But p H H' → tz D σ H') : tSeq (sFld K te tv "own_runs") tz D σ H :=
  q_fld hv he h.p_ hc hn kl_len fun H' h' b => k H' ⟨by rw [ku_runs] at h'; exact h', b.at h.p_ h.t_ (by intro z; cases z)⟩ b
end
/-! ### what they do -/
def Msg.sit : Msg → List PyData
  | .piece _ t i m z => [.str "piece", .int t, .int i, .int m, .str z]
  | .whole _ t => [.str "whole", .int t]
  | .go _ t => [.str "go", .int t]
  | .going _ t => [.str "going", .int t]
def Msg.sd (m : Msg) : PyData := .tuple m.sit
def Msg.hop : Msg → Int
  | .piece h _ _ _ _ => h
  | .whole h _ => h
  | .go h _ => h
  | .going h _ => h
theorem noL_sd (m : Msg) : noL m.sd = true := by cases m <;> rfl
def GiverS.new : GiverS := { phase := "runs", number := 0, pieces := [], known := false }
def TakerS.new : TakerS := { number := 0, many := 0, pieces := [], runs := false }
def GiverS.receive (s : GiverS) : Msg → GiverS
  | .whole _ t => if s.phase = "frozen" ∧ t = s.number then { s with phase := "given" } else s
  | .going _ t => if s.phase = "given" ∧ t = s.number then { s with known := true } else s
  | _ => s
def GiverS.msgs (s : GiverS) : List Msg :=
  if s.phase = "frozen" then (List.range s.pieces.length).map fun (i : Nat) => .piece 1 s.number (i : Int) (s.pieces.length : Int) (s.pieces.getD i Str.empty)
  else if s.phase = "given" ∧ s.known = false then [.go 1 s.number] else []
def TakerS.whole (s : TakerS) : Bool := decide (0 < s.number) && decide ((s.pieces.length : Int) = s.many)
def TakerS.keep (s : TakerS) (n i m : Int) (z : Str) : TakerS :=
  let s1 := if s.number < n then { s with number := n, many := m, pieces := [] } else s
  if n = s1.number ∧ s1.pieces.lookup i = none then { s1 with pieces := s1.pieces ++ [(i, z)] } else s1
def TakerS.receive (s : TakerS) (m : Msg) : TakerS :=
  if s.runs = true then s else match m with
  | .piece _ t i m z => s.keep t i m z
  | .go _ t => if t = s.number ∧ s.whole = true then { s with runs := true } else s
  | _ => s
def TakerS.msgs (s : TakerS) : List Msg := if s.runs = true then [.going 1 s.number] else if s.whole = true then [.whole 1 s.number] else []
/-- all pieces are there -/
structure TakerS.Full (s : TakerS) (zs : List Str) : Prop where
  len : s.pieces.length = zs.length
  few : zs.length < 64
  keys : (s.pieces.map (·.1)).Nodup
  at_ : ∀ q ∈ s.pieces, 0 ≤ q.1 ∧ zs[q.1.toNat]? = some q.2
  sm : ∀ z ∈ zs, z.length ≤ 1000
def spGI (C : Addr) : Sp := fun vs H Q _ => ∃ (p dx : Addr), vs = [.ref p] ∧ H p = some (.ins C dx []) ∧ ∀ pl H', GiverAt C H' p pl GiverS.new → H pl = none → But p H H' → Q .non H'
def spKI (C : Addr) : Sp := fun vs H Q _ => ∃ (p dx : Addr), vs = [.ref p] ∧ H p = some (.ins C dx []) ∧ ∀ td H', TakerAt C H' p td TakerS.new → H td = none → But p H H' → Q .non H'
def spGG (C : Addr) (f : GiverS → V) : Sp := fun vs H Q _ => ∃ (p pl : Addr) (s : GiverS), vs = [.ref p] ∧ GiverAt C H p pl s ∧ ∀ H', Ex H H' → Q (f s) H'
def spKG (C : Addr) (f : TakerS → V) : Sp := fun vs H Q _ => ∃ (p td : Addr) (s : TakerS), vs = [.ref p] ∧ TakerAt C H p td s ∧ ∀ H', Ex H H' → Q (f s) H'
def spGM (C : Addr) (α : Type) (args : α → List V) (pre : α → GiverS → Hp → Prop) (res : α → GiverS → GiverS) (val : α → GiverS → V) : Sp := fun vs H Q _ => ∃ (a : α) (p pl : Addr) (s : GiverS), vs = .ref p :: args a ∧ GiverAt C H p pl s ∧ pre a s H ∧
  ∀ (pl' : Addr) (H' : Hp), GiverAt C H' p pl' (res a s) → (pl' = pl ∨ H pl' = none) → But p H H' → Q (val a s) H'
def spKM (C : Addr) (α : Type) (args : α → List V) (pre : α → TakerS → Hp → Prop) (res : α → TakerS → TakerS) (val : α → TakerS → V) : Sp := fun vs H Q _ => ∃ (a : α) (p td : Addr) (s : TakerS), vs = .ref p :: args a ∧ TakerAt C H p td s ∧ pre a s H ∧
  ∀ (td' : Addr) (H' : Hp), TakerAt C H' p td' (res a s) → (td' = td ∨ H td' = none) → Frm p td H H' → Q (val a s) H'
def spGMsgs (C : Addr) : Sp := fun vs H Q _ => ∃ (p pl : Addr) (s : GiverS), vs = [.ref p] ∧ GiverAt C H p pl s ∧ (s.phase = "frozen" → s.pieces.length ≤ 1000) ∧
  ∀ q xs H', H q = none → Ex H H' → H' q = some (.lst xs) → DaAll N0 H' xs (s.msgs.map Msg.sd) → Q (.ref q) H'
def spKMsgs (C : Addr) : Sp := fun vs H Q _ => ∃ (p td : Addr) (s : TakerS), vs = [.ref p] ∧ TakerAt C H p td s ∧
  ∀ q xs H', H q = none → Ex H H' → H' q = some (.lst xs) → DaAll N0 H' xs (s.msgs.map Msg.sd) → Q (.ref q) H'
def spKRun (C : Addr) : Sp := fun vs H Q _ => ∃ (p td : Addr) (s : TakerS) (zs : List Str), vs = [.ref p] ∧ TakerAt C H p td s ∧ (s.runs = true → s.Full zs) ∧ ∀ H', Ex H H' → Q (if s.runs = true then .str (Txt.join Str.empty zs) else .non) H'
/-- a message that is handed on -/
structure MvA where
  v : V
  m : Msg
/-- the pieces that a giver is handed -/
structure PzA where
  v : V
  zs : List Str
structure KpA where
  n : Int
  i : Int
  m : Int
  z : Str
/-! ### sorted keys -/
theorem inc_len : ∀ {l : List Int} {a b : Int}, l.Pairwise (· < ·) → (∀ x ∈ l, a ≤ x ∧ x < b) → a ≤ b → (l.length : Int) ≤ b - a
  | [], a, b, _, _, h => by simp; omega
  | x :: l, a, b, hp, hr, h => by
    have hx := hr x List.mem_cons_self
    have := inc_len (l := l) (a := x + 1) (b := b) (List.pairwise_cons.mp hp).2 (fun y hy => ⟨by have := (List.pairwise_cons.mp hp).1 y hy; omega, (hr y (List.mem_cons_of_mem _ hy)).2⟩) (by omega)
    rw [List.length_cons]
    omega
theorem inc_range : ∀ {l : List Int} {a : Int}, l.Pairwise (· < ·) → (∀ x ∈ l, a ≤ x ∧ x < a + l.length) → l = (List.range l.length).map fun i : Nat => a + (i : Int)
  | [], a, _, _ => rfl
  | x :: l, a, hp, hr => by
    have hx := hr x List.mem_cons_self
    rw [List.length_cons] at hx
    have hl := (List.pairwise_cons.mp hp).1
    have h1 : (l.length : Int) ≤ a + (l.length + 1 : Nat) - (x + 1) := inc_len (List.pairwise_cons.mp hp).2 (fun y hy => ⟨by have := hl y hy; omega, by have := (hr y (List.mem_cons_of_mem _ hy)).2; rw [List.length_cons] at this; omega⟩) (by omega)
    have ex : x = a := by omega
    subst ex
    have ih := inc_range (l := l) (a := x + 1) (List.pairwise_cons.mp hp).2 (fun y hy => ⟨by have := hl y hy; omega, by have := (hr y (List.mem_cons_of_mem _ hy)).2; rw [List.length_cons] at this; omega⟩)
    rw [List.length_cons, List.range_succ_eq_map, List.map_cons, List.map_map]
    rw [List.cons.injEq]
    refine ⟨by simp, ?_⟩
    conv => lhs; rw [ih]
    refine List.map_congr_left fun i _ => ?_
    show x + 1 + (i : Int) = x + ((i + 1 : Nat) : Int)
    omega
theorem TakerS.Full.sorted {s : TakerS} {zs : List Str} (h : s.Full zs) {ys : List Int} (hp : ys.Perm (s.pieces.map (·.1))) (hs : ys.Pairwise (· ≤ ·)) : ys = (List.range zs.length).map fun i : Nat => (i : Int) := by
  have hn : ys.Nodup := hp.nodup_iff.mpr h.keys
  have hlt : ys.Pairwise (· < ·) := by
    refine List.Pairwise.imp ?_ (List.Pairwise.and hs hn)
    rintro a b ⟨h1, h2⟩
    have : a ≠ b := h2
    omega
  have hl : ys.length = zs.length := by rw [hp.length_eq, List.length_map, h.len]
  have := inc_range (a := 0) hlt fun x hx => by
    obtain ⟨q, hq, rfl⟩ := List.mem_map.mp (hp.mem_iff.mp hx)
    obtain ⟨h0, h1⟩ := h.at_ q hq
    have : q.1.toNat < zs.length := by
      by_cases c : q.1.toNat < zs.length
      · exact c
      · rw [List.getElem?_eq_none (by omega)] at h1; cases h1
    rw [hl]
    omega
  rw [hl] at this
  rw [this]
  refine List.map_congr_left fun i _ => ?_
  show (0 : Int) + i = i
  omega
theorem TakerS.Full.get {s : TakerS} {zs : List Str} (h : s.Full zs) {i : Nat} (hi : i < zs.length) : s.pieces.lookup (i : Int) = some (zs.getD i Str.empty) := by
  have hm : (i : Int) ∈ s.pieces.map (·.1) := by
    by_cases q : (i : Int) ∈ s.pieces.map (·.1)
    · exact q
    · exfalso
      have h1 : ((s.pieces.map (·.1)).map Int.toNat).Nodup := by
        rw [List.Nodup, List.pairwise_map]
        refine List.Pairwise.imp_of_mem ?_ h.keys
        intro a b ha hb ne e
        obtain ⟨q, hq, rfl⟩ := List.mem_map.mp ha
        obtain ⟨r, hr, rfl⟩ := List.mem_map.mp hb
        have := (h.at_ q hq).1
        have := (h.at_ r hr).1
        omega
      have h2 := len_le_of_sub (l := i :: (s.pieces.map (·.1)).map Int.toNat) (l' := List.range zs.length) (List.nodup_cons.mpr ⟨fun hx => by
          obtain ⟨a, ha, e⟩ := List.mem_map.mp hx
          obtain ⟨q', hq', rfl⟩ := List.mem_map.mp ha
          have := (h.at_ q' hq').1
          exact q (List.mem_map.mpr ⟨q', hq', by omega⟩), h1⟩) (fun x hx => by
          rcases List.mem_cons.mp hx with rfl | hx
          · exact List.mem_range.mpr hi
          · obtain ⟨a, ha, rfl⟩ := List.mem_map.mp hx
            obtain ⟨q', hq', rfl⟩ := List.mem_map.mp ha
            have := (h.at_ q' hq').2
            rw [List.mem_range]
            by_cases c : q'.1.toNat < zs.length
            · exact c
            · rw [List.getElem?_eq_none (by omega)] at this; cases this)
      rw [List.length_cons, List.length_map, List.length_map, List.length_range, h.len] at h2
      omega
  obtain ⟨z, hz, hzm⟩ := lookup_some hm
  have := (h.at_ _ hzm).2
  rw [show ((i : Int)).toNat = i from Int.toNat_natCast i] at this
  rw [hz, List.getD_eq_getElem?_getD, this]
  rfl
end Rel

namespace Rel
open PySem PySem.Spec PyProof.Rows L2 Evl
theorem shaped_sd {m : Msg} (h : m.ok) : SeqAt.shaped m.sd = true := by
  cases m with
  | piece a b c d z =>
    have hz : okS z = true := h.2.2.2.2.2.2
    have hz' : PyData.strOk z = true := hz
    show (PyData.canLay0 _ && decide (PyData.depth _ ≤ 64)) = true
    simp [Msg.sd, Msg.sit, PyData.canLay0, PyData.canLayAll0, PyData.depth, PyData.depthAll]
    exact ⟨by decide +kernel, hz'⟩
  | whole a b => show (PyData.canLay0 _ && decide (PyData.depth _ ≤ 64)) = true; simp [Msg.sd, Msg.sit, PyData.canLay0, PyData.canLayAll0, PyData.depth, PyData.depthAll]; decide +kernel
  | go a b => show (PyData.canLay0 _ && decide (PyData.depth _ ≤ 64)) = true; simp [Msg.sd, Msg.sit, PyData.canLay0, PyData.canLayAll0, PyData.depth, PyData.depthAll]; decide +kernel
  | going a b => show (PyData.canLay0 _ && decide (PyData.depth _ ≤ 64)) = true; simp [Msg.sd, Msg.sit, PyData.canLay0, PyData.canLayAll0, PyData.depth, PyData.depthAll]; decide +kernel
theorem shaped_wh (n : Int) : SeqAt.shaped (.tuple [.str "whole", .int n]) = true := by
  show (PyData.canLay0 _ && decide (PyData.depth _ ≤ 64)) = true; simp [PyData.canLay0, PyData.canLayAll0, PyData.depth, PyData.depthAll]; decide +kernel
theorem shaped_gg (n : Int) : SeqAt.shaped (.tuple [.str "going", .int n]) = true := by
  show (PyData.canLay0 _ && decide (PyData.depth _ ≤ 64)) = true; simp [PyData.canLay0, PyData.canLayAll0, PyData.depth, PyData.depthAll]; decide +kernel
theorem wd1 : ("piece" : Str) ≠ "whole" := by decide +kernel
theorem wd2 : ("piece" : Str) ≠ "going" := by decide +kernel
theorem wd3 : ("piece" : Str) ≠ "go" := by decide +kernel
theorem wd4 : ("whole" : Str) ≠ "piece" := by decide +kernel
theorem wd5 : ("whole" : Str) ≠ "going" := by decide +kernel
theorem wd6 : ("whole" : Str) ≠ "go" := by decide +kernel
theorem wd7 : ("go" : Str) ≠ "piece" := by decide +kernel
theorem wd8 : ("go" : Str) ≠ "whole" := by decide +kernel
theorem wd9 : ("go" : Str) ≠ "going" := by decide +kernel
theorem wd10 : ("going" : Str) ≠ "piece" := by decide +kernel
theorem wd11 : ("going" : Str) ≠ "whole" := by decide +kernel
theorem wd12 : ("going" : Str) ≠ "go" := by decide +kernel
def Msg.isWhole (n : Int) : Msg → Bool
  | .whole _ t => decide (t = n)
  | _ => false
def Msg.isGoing (n : Int) : Msg → Bool
  | .going _ t => decide (t = n)
  | _ => false
theorem sd_whole (m : Msg) (n : Int) : PyData.eqv m.sd (.tuple [.str "whole", .int n]) = m.isWhole n := by
  cases m <;> simp [Msg.sd, Msg.sit, PyData.eqv, PyData.eqvAll, Msg.isWhole, wd1, wd8, wd11] <;> rfl
theorem sd_going (m : Msg) (n : Int) : PyData.eqv m.sd (.tuple [.str "going", .int n]) = m.isGoing n := by
  cases m <;> simp [Msg.sd, Msg.sit, PyData.eqv, PyData.eqvAll, Msg.isGoing, wd2, wd5, wd9] <;> rfl
section
variable {K : PySem.W.Frag} {σ : L2.St} {H : Hp} {ta : TA} {te tx : TE} {tt : TT} {vs : List Nat} {a : Addr} {xs : List V}
theorem el_listOf (h : EvA ta σ H [.ref a]) (hq : H a = some (.lst xs)) : EvL (tCB (rLstOf K) ta) σ H xs := fun H1 e Q q =>
  h H1 e _ fun H2 e2 => ⟨a, xs, rfl, .inl (sq_of (e2 _ _ (e _ _ hq))), fun l hl => q l _ (fresh_back e2 hl) (e2.trans (Ex.new hl)) upd_same⟩
/-- a comprehension over places and things: its list is new -/
theorem lcE_new {n : Nat} {j k : Nat} (h : EvA ta σ H [.ref a]) (ha : H a = some (.lst xs)) (hn : xs.length = n) (hz : n ≤ 40000) (hw : ∀ x y, wipe (((wipe σ vs).set j (some x)).set k (some y)) vs = wipe σ vs) (f : Nat → Bool) (d : Nat → PyData)
    (ht : ∀ (i : Nat) (x : V), xs[i]? = some x → EvT tt (((wipe σ vs).set j (some (.int (i : Nat)))).set k (some x)) H (f i))
    (he : ∀ (i : Nat) (x : V), xs[i]? = some x → f i = true → EvD te (((wipe σ vs).set j (some (.int (i : Nat)))).set k (some x)) H (d i)) {Q : VK} (q : ∀ D H', H D = none → Ex H H' → Da N0 H' (.ref D) (.list (givenD n f d)) → Q (.ref D) H') : tLc (iEnum K ta) (gTup K 2 (gCons (gName j) (gCons (gName k) gNil))) tt te vs σ H Q :=
  h H (Ex.refl H) _ fun H2 e2 => by
    subst hn
    have ha2 := e2 _ _ ha
    refine ⟨a, xs, rfl, sq_of ha2, fun D hD => ?_⟩
    refine lc_ed (H := H) (walk_enum (xs := xs)) f d hz e2 (fun H3 e3 => sq_of (e3 _ _ ha2)) ?_ hD (fun H' e' hd' => q D H' (fresh_back e2 hD) (e2.trans e') hd'.zero)
    rintro i x H3 H4 hi e3 ⟨U, x0, y0, rfl, hU, rfl, hx, hy⟩ R hR
    cases hx
    refine g_pair upd_same ?_
    exact hR _ _ (Ex.new hU) (hw _ _) (ht i y0 hy) (he i y0 hy)
theorem t_tif {t : TT} {tu tw : TE} {b : Bool} {Q : VK} (h : EvT t σ H b) (h1 : b = true → ∀ H1, Ex H H1 → tu σ H1 Q) (h2 : b = false → ∀ H1, Ex H H1 → tw σ H1 Q) : tIf t tu tw σ H Q := h H (Ex.refl H) _ fun H1 e => by
  cases b with
  | true => exact h1 rfl H1 e
  | false => exact h2 rfl H1 e
/-- a list of data, new -/
theorem lst_new {ds : List PyData} (h : EvDA ta σ H ds) (hl : ds.length ≤ 100000) {Q : VK} (q : ∀ D xs H', H D = none → Ex H H' → H' D = some (.lst xs) → DaAll N0 H' xs ds → Q (.ref D) H') : tLst ta σ H Q :=
  h H (Ex.refl H) _ fun xs H1 e1 hd => ⟨by rw [hd.length]; exact sz_of hl, fun D hD => q D xs _ (fresh_back e1 hD) (e1.trans (Ex.new hD)) upd_same (hd.zero.ex (Ex.new hD))⟩
end
end Rel

namespace Rel
open PySem PySem.Spec PyProof.Rows L2 Evl
def Msg.wd : Msg → Str
  | .piece _ _ _ _ _ => "piece"
  | .whole _ _ => "whole"
  | .go _ _ => "go"
  | .going _ _ => "going"
def Msg.tr : Msg → Int
  | .piece _ t _ _ _ => t
  | .whole _ t => t
  | .go _ t => t
  | .going _ t => t
def Msg.rs : Msg → List PyData
  | .piece _ _ i m z => [.int i, .int m, .str z]
  | _ => []
theorem Msg.sit_eq (m : Msg) : m.sit = .str m.wd :: .int m.tr :: m.rs := by cases m <;> rfl
abbrev rSorted : List V → Hp → VK → Prop := fun xs H Q => ∃ (a : Addr) (kvs : List (Key × V)) (ks : List Int), xs = [.ref a] ∧ Rd H a (.dK kvs) ∧ kvs.map (·.1) = ks.map Sum.inl ∧ ks.length < 64 ∧
    ∀ (ys : List Int) (p : Addr), ys.Perm ks → ys.Pairwise (· ≤ ·) → H p = none → Q (.ref p) (upd H p (.lst (ys.map V.int)))
section
variable {α : Type} {args : α → List V} {preG : α → GiverS → Hp → Prop} {resG : α → GiverS → GiverS} {valG : α → GiverS → V} {preK : α → TakerS → Hp → Prop} {resK : α → TakerS → TakerS} {valK : α → TakerS → V}
variable {K : PySem.W.Frag} {σ : L2.St} {H : Hp} {te tv : TE} {ta : TA} {p C dx pl td : Addr} {fs : List (Str × V)} {f m : Str} {g : GiverS} {t : TakerS} {D : Ends} {tz : TS} {E : XK} {zs : List Str} {Q : VK}
theorem s_fldK (h : Ev te σ H (.ref p)) (ho : H p = some (.ins C dx fs)) (hc : Cls K C) (hn : NoAttr K C f) (hl : fs.length < 1000)
    (k : ∀ q H', H q = none → H' q = some (.dK []) → H' p = some (.ins C dx (putF f (.ref q) fs)) → But p H H' → D.nx σ H') : sFld K te tDNewK f D σ H := fun q hq =>
  h _ (Ex.new hq) _ fun H1 e1 => ⟨p, C, dx, fs, rfl, e1 _ _ (Ex.new hq _ _ ho), hc, hn, hl,
    k q _ hq (by rw [upd_ne (by rintro rfl; rw [ho] at hq; cases hq)]; exact e1 _ _ upd_same) upd_same ((But.of_ex ((Ex.new hq).trans e1)).trans But.upd)⟩
theorem ev_getG {f : GiverS → V} (h : Ev te σ H (.ref p)) (ho : GiverAt C H p pl g) (hm : m ∈ (["phase", "freeze", "resume", "receive", "messages"] : List Str) := by simp) : Ev (tMeth C m (spGG C f) [] E te tNil) σ H (f g) := fun H1 e Q q =>
  h H1 e _ fun H2 e2 => by
    obtain ⟨dx, a2⟩ := ho.ex (e.trans e2)
    exact ⟨p, dx, _, rfl, a2.p_, gl_no hm, p, pl, g, rfl, ⟨dx, a2⟩, fun H3 e3 => q H3 (e2.trans e3)⟩
theorem ev_getT {f : TakerS → V} (h : Ev te σ H (.ref p)) (ho : TakerAt C H p td t) (hm : m ∈ (["is_whole", "keep", "receive", "messages", "running"] : List Str) := by simp) : Ev (tMeth C m (spKG C f) [] E te tNil) σ H (f t) := fun H1 e Q q =>
  h H1 e _ fun H2 e2 => by
    obtain ⟨dx, a2⟩ := ho.ex (e.trans e2)
    exact ⟨p, dx, _, rfl, a2.p_, kl_no hm, p, td, t, rfl, ⟨dx, a2⟩, fun H3 e3 => q H3 (e2.trans e3)⟩
theorem ev_runT (h : Ev te σ H (.ref p)) (ho : TakerAt C H p td t) (hf : t.runs = true → t.Full zs) : Ev (tMeth C "running" (spKRun C) [] E te tNil) σ H (if t.runs = true then .str (Txt.join Str.empty zs) else .non) := fun H1 e Q q =>
  h H1 e _ fun H2 e2 => by
    obtain ⟨dx, a2⟩ := ho.ex (e.trans e2)
    exact ⟨p, dx, _, rfl, a2.p_, kl_no (by simp), p, td, t, zs, rfl, ⟨dx, a2⟩, hf, fun H3 e3 => q H3 (e2.trans e3)⟩
theorem m_G (a : α) (h : Ev te σ H (.ref p)) (hx : EvA ta σ H (args a)) (ho : GiverAt C H p pl g) (hp : ∀ H', Ex H H' → preG a g H')
    (k : ∀ (pl' : Addr) (H' : Hp), GiverAt C H' p pl' (resG a g) → (pl' = pl ∨ H pl' = none) → But p H H' → Q (valG a g) H')
    (hm : m ∈ (["phase", "freeze", "resume", "receive", "messages"] : List Str) := by simp) : tMeth C m (spGM C α args preG resG valG) [] E te ta σ H Q :=
  h H (Ex.refl H) _ fun H1 e1 => by
    obtain ⟨dx, a1⟩ := ho.ex e1
    refine ⟨p, dx, _, rfl, a1.p_, gl_no hm, hx H1 e1 _ fun H2 e2 => ⟨a, p, pl, g, by rw [List.append_nil], (ho.ex e1).ex e2, hp H2 (e1.trans e2), fun pl' H' hh hp b => ?_⟩⟩
    exact k pl' H' hh (hp.imp id fun z => fresh_back (e1.trans e2) z) ((But.of_ex (e1.trans e2)).trans b)
theorem m_T (a : α) (h : Ev te σ H (.ref p)) (hx : EvA ta σ H (args a)) (ho : TakerAt C H p td t) (hp : ∀ H', Ex H H' → preK a t H')
    (k : ∀ (td' : Addr) (H' : Hp), TakerAt C H' p td' (resK a t) → (td' = td ∨ H td' = none) → Frm p td H H' → Q (valK a t) H')
    (hm : m ∈ (["is_whole", "keep", "receive", "messages", "running"] : List Str) := by simp) : tMeth C m (spKM C α args preK resK valK) [] E te ta σ H Q :=
  h H (Ex.refl H) _ fun H1 e1 => by
    obtain ⟨dx, a1⟩ := ho.ex e1
    refine ⟨p, dx, _, rfl, a1.p_, kl_no hm, hx H1 e1 _ fun H2 e2 => ⟨a, p, td, t, by rw [List.append_nil], (ho.ex e1).ex e2, hp H2 (e1.trans e2), fun td' H' hh ht fr => ?_⟩⟩
    exact k td' H' hh (ht.imp id fun z => fresh_back (e1.trans e2) z) (fun c o n n2 q => fr c o n n2 ((e1.trans e2) c o q))
theorem s_callG (a : α) (h : Ev te σ H (.ref p)) (hx : EvA ta σ H (args a)) (ho : GiverAt C H p pl g) (hp : ∀ H', Ex H H' → preG a g H')
    (k : ∀ (pl' : Addr) (H' : Hp), GiverAt C H' p pl' (resG a g) → (pl' = pl ∨ H pl' = none) → But p H H' → D.nx σ H')
    (hm : m ∈ (["phase", "freeze", "resume", "receive", "messages"] : List Str) := by simp) : tDrop (tMeth C m (spGM C α args preG resG valG) [] E te ta) D σ H := m_G a h hx ho hp k hm
theorem s_callT (a : α) (h : Ev te σ H (.ref p)) (hx : EvA ta σ H (args a)) (ho : TakerAt C H p td t) (hp : ∀ H', Ex H H' → preK a t H')
    (k : ∀ (td' : Addr) (H' : Hp), TakerAt C H' p td' (resK a t) → (td' = td ∨ H td' = none) → Frm p td H H' → D.nx σ H')
    (hm : m ∈ (["is_whole", "keep", "receive", "messages", "running"] : List Str) := by simp) : tDrop (tMeth C m (spKM C α args preK resK valK) [] E te ta) D σ H := m_T a h hx ho hp k hm
theorem ed_sorted {a : Addr} (h : EvA ta σ H [.ref a]) (ha : H a = some (.dK (t.pieces.map keyT))) (hF : t.Full zs) : EvD (tCB rSorted ta) σ H (.list ((List.range zs.length).map fun i : Nat => .int (i : Int))) := fun H1 e Q q =>
  h H1 e _ fun H2 e2 => by
    refine ⟨a, _, t.pieces.map (·.1), rfl, .inl (e2 _ _ (e _ _ ha)), by rw [List.map_map, List.map_map]; rfl, by rw [List.length_map, hF.len]; exact hF.few, fun ys p hp hs hq => ?_⟩
    refine q _ _ (e2.trans (Ex.new hq)) (.lst upd_same (Nw.new e2 hq) ?_)
    rw [hF.sorted hp hs, List.map_map]
    exact DaAll.mapD (fun i => .int _) _
theorem map_getD_str {zs : List Str} : ((List.range zs.length).map fun i => PyData.str (zs.getD i Str.empty)) = zs.map PyData.str := by
  refine List.ext_getElem? fun i => ?_
  rw [List.getElem?_map, List.getElem?_map]
  by_cases h : i < zs.length
  · rw [List.getElem?_range h, List.getElem?_eq_getElem h]
    show some (PyData.str (zs.getD i Str.empty)) = some (PyData.str zs[i])
    rw [List.getD_eq_getElem?_getD, List.getElem?_eq_getElem h]
    rfl
  · rw [List.getElem?_eq_none (by rw [List.length_range]; omega), List.getElem?_eq_none (by omega)]
    rfl
end
end Rel
end
section
/-! one hop beside a giver and a taker, in plain Lean -/
namespace Rel
open PySem PySem.Spec PyProof.Rows L2 Evl
structure GoodP (tx : Str) (zs : List Str) : Prop where
  n0 : 1 ≤ zs.length
  n1 : zs.length < 64
  sm : ∀ x ∈ zs, x.length ≤ 1000 ∧ okS x = true
  jn : Txt.join Str.empty zs = tx
def NearR (tx : Str) (pcs : Int → List Str) (g : GiverS) (n : HostS) : Prop :=
  (g.phase = "runs" ∧ n.phase = "runs" ∧ n.text = some tx ∧ n.goal = none ∧ g.known = false) ∨
  (g.phase = "frozen" ∧ n.phase = "frozen" ∧ n.text = some tx ∧ n.goal = some 8 ∧ n.pieces = g.pieces ∧ g.pieces = pcs g.number ∧ 1 ≤ g.number ∧ g.known = false) ∨
  (g.phase = "given" ∧ g.known = false ∧ n.phase = "given" ∧ n.goal = some 8 ∧ 1 ≤ g.number) ∨
  (g.phase = "given" ∧ g.known = true ∧ n.phase = "away" ∧ n.goal = none)
def FarR (tx : Str) (pcs : Int → List Str) (g : GiverS) (t : TakerS) (f : HostS) : Prop :=
  (t = TakerS.new ∧ f = HostS.new 8) ∨
  (1 ≤ t.number ∧ t.number ≤ g.number ∧ t.runs = false ∧ f.phase = "away" ∧ f.hop = 1 ∧ f.tri = t.number ∧ f.frm = some 3 ∧ f.taken = t.pieces ∧ f.many = t.many ∧ t.many = (pcs t.number).length ∧ (∀ q ∈ t.pieces, (pcs t.number)[q.1.toNat]? = some q.2) ∧ f.came = none) ∨
  (1 ≤ t.number ∧ t.number ≤ g.number ∧ t.runs = true ∧ f.phase = "runs" ∧ f.text = some tx ∧ f.came = some (3, 1, t.number) ∧ t.Full (pcs t.number))
structure One (tx : Str) (pcs : Int → List Str) (g : GiverS) (t : TakerS) (n f : HostS) : Prop where
  pc : ∀ k, 1 ≤ k → k ≤ g.number → GoodP tx (pcs k)
  n0 : 0 ≤ g.number
  nn : n.num = 3
  nr : n.hop = 0 ∧ n.tri = g.number ∧ n.frm = none ∧ n.came = none
  nok : n.Ok
  ph : NearR tx pcs g n
  fr : FarR tx pcs g t f
  fok : f.Ok
def MO (pcs : Int → List Str) (g : GiverS) (far : Bool) (m : Msg) : Prop := m.ok ∧ m.hop = 1 ∧ match far, m with
  | true, .piece _ k i mm z => k ≤ g.number ∧ mm = (pcs k).length ∧ (pcs k)[i.toNat]? = some z
  | true, .go _ _ => True
  | false, .whole _ _ => True
  | false, .going _ _ => True
  | _, _ => False
theorem MO.up {pcs pcs' : Int → List Str} {g g' : GiverS} {far : Bool} {m : Msg} (h : MO pcs g far m) (hn : g.number ≤ g'.number) (hp : ∀ k, k ≤ g.number → pcs' k = pcs k) : MO pcs' g' far m := by
  obtain ⟨h1, h2, h3⟩ := h
  refine ⟨h1, h2, ?_⟩
  cases far <;> cases m <;> first | exact h3 | skip
  dsimp only at h3 ⊢
  rw [hp _ h3.1]
  exact ⟨by omega, h3.2⟩
section
variable {tx : Str} {pcs : Int → List Str} {g : GiverS} {t : TakerS} {n f : HostS}
theorem joined_one {s : HostS} {zs : List Str} (ho : s.Ok) (hl : (s.taken.length : Int) = s.many) (m1 : s.many = zs.length) (m2 : ∀ q ∈ s.taken, zs[q.1.toNat]? = some q.2) : s.joined = Txt.join Str.empty zs := by
  unfold HostS.joined
  have e : (List.range s.many.toNat).map (fun (i : Nat) => (s.taken.lookup (i : Int)).getD Str.empty) = zs := by
    refine List.ext_getElem? fun i => ?_
    by_cases hi : i < zs.length
    · obtain ⟨z, hz, _⟩ := ho.all hl i (by omega)
      have hm : ((i : Int), z) ∈ s.taken := by
        have h1 : (i : Int) ∈ s.taken.map (·.1) := by
          by_cases q : (i : Int) ∈ s.taken.map (·.1)
          · exact q
          · rw [lookup_none.mpr q] at hz; cases hz
        obtain ⟨z', h2, h3⟩ := lookup_some h1
        rw [hz] at h2
        cases h2
        exact h3
      have := m2 _ hm
      rw [show ((i : Int)).toNat = i from Int.toNat_natCast i] at this
      rw [this, List.getElem?_map, List.getElem?_range (by omega : i < s.many.toNat)]
      show some ((s.taken.lookup (i : Int)).getD Str.empty) = some z
      rw [hz]
      rfl
    · rw [List.getElem?_eq_none (by omega : zs.length ≤ i), List.getElem?_eq_none (by rw [List.length_map, List.length_range]; omega)]
  rw [e]
theorem one_freeze (I : One tx pcs g t n f) (hp : g.phase = "runs") {zs : List Str} (hz : GoodP tx zs) :
    One tx (fun k => if k = g.number + 1 then zs else pcs k) { g with phase := "frozen", number := g.number + 1, pieces := zs } t { n with phase := "frozen", goal := some 8, pieces := zs, tri := n.tri + 1 } f ∧
    ∀ far m, MO pcs g far m → MO (fun k => if k = g.number + 1 then zs else pcs k) { g with phase := "frozen", number := g.number + 1, pieces := zs } far m := by
  have n0 := I.n0
  have hk : ∀ k, k ≤ g.number → (if k = g.number + 1 then zs else pcs k) = pcs k := fun k h => if_neg (by omega)
  refine ⟨⟨fun k h1 h2 => ?_, by show 0 ≤ g.number + 1; omega, I.nn, ⟨I.nr.1, by show n.tri + 1 = g.number + 1; rw [I.nr.2.1], I.nr.2.2⟩, ?_, ?_, ?_, I.fok⟩, fun far m h => h.up (by show g.number ≤ g.number + 1; omega) hk⟩
  · by_cases c : k = g.number + 1
    · show GoodP tx (if k = g.number + 1 then zs else pcs k)
      rw [if_pos c]; exact hz
    · show GoodP tx (if k = g.number + 1 then zs else pcs k)
      rw [if_neg c]
      replace h2 : k ≤ g.number + 1 := h2
      exact I.pc k h1 (by omega)
  · have o := I.nok
    exact ⟨o.keys, o.range, o.small.1, o.small.2.1, by have := hz.n1; show zs.length ≤ 1000; omega⟩
  · refine .inr (.inl ⟨rfl, rfl, ?_, rfl, rfl, ?_, by show 1 ≤ g.number + 1; omega, ?_⟩)
    · rcases I.ph with q | q | q | q
      · exact q.2.2.1
      · exact absurd (hp.symm.trans q.1) ph9
      · exact absurd (hp.symm.trans q.1) ph8
      · exact absurd (hp.symm.trans q.1) ph8
    · show zs = if g.number + 1 = g.number + 1 then zs else pcs (g.number + 1)
      rw [if_pos rfl]
    · rcases I.ph with q | q | q | q
      · exact q.2.2.2.2
      · exact absurd (hp.symm.trans q.1) ph9
      · exact absurd (hp.symm.trans q.1) ph8
      · exact absurd (hp.symm.trans q.1) ph8
  · rcases I.fr with q | ⟨a1, a2, a3, a4, a5, a6, a7, a8, a9, a10, a11, a12⟩ | ⟨a1, a2, a3, a4, a5, a6, a7⟩
    · exact .inl q
    · refine .inr (.inl ⟨a1, by show t.number ≤ g.number + 1; omega, a3, a4, a5, a6, a7, a8, a9, ?_, ?_, a12⟩)
      · dsimp only; rw [hk _ a2]; exact a10
      · dsimp only; rw [hk _ a2]; exact a11
    · refine .inr (.inr ⟨a1, by show t.number ≤ g.number + 1; omega, a3, a4, a5, a6, ?_⟩)
      dsimp only; rw [hk _ a2]; exact a7
theorem one_resume (I : One tx pcs g t n f) (hp : g.phase = "frozen") : One tx pcs { g with phase := "runs" } t { n with phase := "runs", goal := none, pieces := [] } f := by
  have o := I.nok
  refine ⟨I.pc, I.n0, I.nn, I.nr, ⟨o.keys, o.range, o.small.1, o.small.2.1, Nat.zero_le _⟩, ?_, I.fr, I.fok⟩
  rcases I.ph with q | q | q | q
  · exact absurd (hp.symm.trans q.1) ph12
  · exact .inl ⟨rfl, rfl, q.2.2.1, rfl, q.2.2.2.2.2.2.2⟩
  · exact absurd (hp.symm.trans q.1) ph11
  · exact absurd (hp.symm.trans q.1) ph11
theorem one_near_ph (I : One tx pcs g t n f) (hp : g.phase = "frozen") : n.phase = "frozen" := by
  rcases I.ph with q | q | q | q
  · exact absurd (hp.symm.trans q.1) ph12
  · exact q.2.1
  · exact absurd (hp.symm.trans q.1) ph11
  · exact absurd (hp.symm.trans q.1) ph11
theorem one_near_runs (I : One tx pcs g t n f) (hp : g.phase = "runs") : n.phase = "runs" := by
  rcases I.ph with q | q | q | q
  · exact q.2.1
  · exact absurd (hp.symm.trans q.1) ph9
  · exact absurd (hp.symm.trans q.1) ph8
  · exact absurd (hp.symm.trans q.1) ph8
/-- a message comes to the giver -/
theorem one_giver (I : One tx pcs g t n f) {m : Msg} (h : MO pcs g false m) : One tx pcs (g.receive m) t (n.receive 8 m) f := by
  obtain ⟨hop, tri, frm, came⟩ := I.nr
  have o := I.nok
  have keep : ∀ g' n', g'.number = g.number → NearR tx pcs g' n' → n'.num = n.num → (n'.hop = n.hop ∧ n'.tri = n.tri ∧ n'.frm = n.frm ∧ n'.came = n.came) → n'.Ok → One tx pcs g' t n' f := fun g' n' e1 hN e2 e3 o' => by
    refine ⟨fun k h1 h2 => I.pc k h1 (by omega), by rw [e1]; exact I.n0, e2.trans I.nn, ⟨by rw [e3.1, hop], by rw [e3.2.1, tri, e1], by rw [e3.2.2.1, frm], by rw [e3.2.2.2, came]⟩, o', hN, ?_, I.fok⟩
    rcases I.fr with q | q | q
    · exact .inl q
    · exact .inr (.inl ⟨q.1, by rw [e1]; exact q.2.1, q.2.2⟩)
    · exact .inr (.inr ⟨q.1, by rw [e1]; exact q.2.1, q.2.2⟩)
  have same : ∀ g' n', g' = g → n' = n → One tx pcs g' t n' f := fun g' n' e1 e2 => by subst e1; subst e2; exact I
  obtain ⟨hok, hh, hm⟩ := h
  cases m with
  | piece a b c d z => exact hm.elim
  | go a b => exact hm.elim
  | whole hp k =>
    replace hh : hp = 1 := hh
    subst hh
    have hE : n.receive 8 (.whole 1 k) = if n.goal = some 8 ∧ (1 : Int) = n.hop + 1 ∧ k = n.tri then n.answer true else n := rfl
    have hG : g.receive (.whole 1 k) = if g.phase = "frozen" ∧ k = g.number then { g with phase := "given" } else g := rfl
    rw [hE, hG]
    rcases I.ph with q | q | q | q
    · exact same _ _ (if_neg fun z => ph9 (q.1.symm.trans z.1)) (if_neg fun z => by rw [q.2.2.2.1] at z; cases z.1)
    · by_cases c : k = g.number
      · rw [if_pos ⟨q.1, c⟩, if_pos ⟨q.2.2.2.1, by omega, by omega⟩]
        unfold HostS.answer
        rw [if_pos rfl, if_pos q.2.1]
        exact keep _ _ rfl (.inr (.inr (.inl ⟨rfl, q.2.2.2.2.2.2.2, rfl, q.2.2.2.1, q.2.2.2.2.2.2.1⟩))) rfl ⟨rfl, rfl, rfl, rfl⟩ ⟨o.keys, o.range, o.small⟩
      · exact same _ _ (if_neg fun z => c z.2) (if_neg fun z => c (by omega))
    · refine same _ _ (if_neg fun z => ph6 (q.1.symm.trans z.1)) ?_
      split
      · unfold HostS.answer
        rw [if_pos rfl, if_neg fun z => ph6 (q.2.2.1.symm.trans z)]
      · rfl
    · refine same _ _ (if_neg fun z => ph6 (q.1.symm.trans z.1)) (if_neg fun z => by rw [q.2.2.2] at z; cases z.1)
  | going hp k =>
    replace hh : hp = 1 := hh
    subst hh
    have hE : n.receive 8 (.going 1 k) = if n.goal = some 8 ∧ (1 : Int) = n.hop + 1 ∧ k = n.tri then n.answer false else n := rfl
    have hG : g.receive (.going 1 k) = if g.phase = "given" ∧ k = g.number then { g with known := true } else g := rfl
    rw [hE, hG]
    rcases I.ph with q | q | q | q
    · exact same _ _ (if_neg fun z => ph8 (q.1.symm.trans z.1)) (if_neg fun z => by rw [q.2.2.2.1] at z; cases z.1)
    · refine same _ _ (if_neg fun z => ph11 (q.1.symm.trans z.1)) ?_
      split
      · unfold HostS.answer
        rw [if_neg (by decide), if_neg fun z => ph11 (q.2.1.symm.trans z)]
      · rfl
    · by_cases c : k = g.number
      · rw [if_pos ⟨q.1, c⟩, if_pos ⟨q.2.2.2.1, by omega, by omega⟩]
        unfold HostS.answer
        rw [if_neg (by decide), if_pos q.2.2.1]
        exact keep _ _ rfl (.inr (.inr (.inr ⟨q.1, rfl, rfl, rfl⟩))) rfl ⟨rfl, rfl, rfl, rfl⟩ ⟨o.keys, o.range, o.small.1, o.small.2.1, Nat.zero_le _⟩
      · exact same _ _ (if_neg fun z => c z.2) (if_neg fun z => c (by omega))
    · refine keep _ _ ?_ ?_ ?_ ?_ ?_
      · split <;> rfl
      · have e1 : (if n.goal = some 8 ∧ (1 : Int) = n.hop + 1 ∧ k = n.tri then n.answer false else n) = n := if_neg fun z => by rw [q.2.2.2] at z; cases z.1
        rw [e1]
        split
        · exact .inr (.inr (.inr ⟨q.1, rfl, q.2.2⟩))
        · exact .inr (.inr (.inr q))
      · rw [if_neg fun z => by rw [q.2.2.2] at z; cases z.1]
      · rw [if_neg fun z => by rw [q.2.2.2] at z; cases z.1]; exact ⟨rfl, rfl, rfl, rfl⟩
      · rw [if_neg fun z => by rw [q.2.2.2] at z; cases z.1]; exact o
/-- a message comes to the taker -/
theorem one_taker (I : One tx pcs g t n f) {m : Msg} (h : MO pcs g true m) : One tx pcs g (t.receive m) n (f.receive 3 m) := by
  have keep : ∀ t' f', FarR tx pcs g t' f' → f'.Ok → One tx pcs g t' n f' := fun t' f' hF o' => ⟨I.pc, I.n0, I.nn, I.nr, I.nok, I.ph, hF, o'⟩
  have same : ∀ t' f', t' = t → f' = f → One tx pcs g t' n f' := fun t' f' e1 e2 => by subst e1; subst e2; exact I
  obtain ⟨hok, hh, hm⟩ := h
  have o := I.fok
  cases m with
  | whole a b => exact hm.elim
  | going a b => exact hm.elim
  | piece hp k i mm z =>
    replace hh : hp = 1 := hh
    subst hh
    obtain ⟨k1, k2, k3⟩ := hm
    obtain ⟨_, kk1, i0, im, mm1, z1, z2⟩ := hok
    have hE : f.receive 3 (.piece 1 k i mm z) = f.takePiece 3 1 k i mm z := rfl
    rw [hE]
    have okN : ∀ s' : HostS, s'.taken = [(i, z)] → s'.many = mm → s'.pieces = f.pieces → s'.Ok := fun s' e1 e2 e3 => by
      refine ⟨by rw [e1]; simp, fun q hq => ?_, by rw [e2]; exact mm1, fun q hq => ?_, by rw [e3]; exact o.small.2.2⟩
      · rw [e1] at hq; rw [List.mem_singleton.mp hq, e2]; exact ⟨i0, im⟩
      · rw [e1] at hq; rw [List.mem_singleton.mp hq]; exact z1
    have fresh : t.runs = false → t.number < k → t.receive (.piece 1 k i mm z) = { t with number := k, many := mm, pieces := [(i, z)] } := fun r c => by
      unfold TakerS.receive TakerS.keep
      rw [if_neg (by rw [r]; decide)]
      dsimp only
      rw [if_pos c, if_pos ⟨rfl, rfl⟩]
      rfl
    have fr2 : ∀ f' : HostS, t.runs = false → t.number < k → f'.phase = "away" → f'.hop = 1 → f'.tri = k → f'.frm = some 3 → f'.taken = [(i, z)] → f'.many = mm → f'.came = none → f'.pieces = f.pieces → One tx pcs g (t.receive (.piece 1 k i mm z)) n f' := fun f' r c c1 c2 c3 c4 c5 c6 c7 c8 => by
      rw [fresh r c]
      refine keep _ _ (.inr (.inl ⟨kk1, k1, r, c1, c2, c3, c4, c5, c6, k2, fun q hq => ?_, c7⟩)) (okN f' c5 c6 c8)
      rw [List.mem_singleton.mp hq]
      exact k3
    rcases I.fr with ⟨q1, q2⟩ | ⟨a1, a2, a3, a4, a5, a6, a7, a8, a9, a10, a11, a12⟩ | ⟨a1, a2, a3, a4, a5, a6, a7⟩
    · have c1 : f.phase = "away" := by rw [q2]; rfl
      have c2 : f.hop < 1 := by rw [q2]; show (0 : Int) < 1; decide
      rw [tp_away c1 c2]
      exact fr2 _ (by rw [q1]; rfl) (by rw [q1]; show 0 < k; omega) c1 rfl rfl rfl rfl rfl (by show f.came = none; rw [q2]; rfl) rfl
    · rw [tp_cur a4 a5 a7]
      have hT : t.receive (.piece 1 k i mm z) = t.keep k i mm z := by unfold TakerS.receive; rw [if_neg (by rw [a3]; decide)]
      by_cases c1 : k < f.tri
      · rw [if_pos c1]
        refine same _ _ ?_ rfl
        rw [hT]
        unfold TakerS.keep
        rw [if_neg (by omega : ¬ t.number < k)]
        exact if_neg fun z => by have := z.1; omega
      · rw [if_neg c1]
        by_cases c2 : k = f.tri
        · rw [if_pos c2]
          have hmm : mm = f.many := by rw [a9, a10, k2, c2, a6]
          have hT2 : t.receive (.piece 1 k i mm z) = if t.pieces.lookup i = none then { t with pieces := t.pieces ++ [(i, z)] } else t := by
            rw [hT]
            unfold TakerS.keep
            rw [if_neg (by omega : ¬ t.number < k)]
            by_cases c3 : t.pieces.lookup i = none
            · rw [if_pos c3]; exact if_pos ⟨by omega, c3⟩
            · rw [if_neg c3]; exact if_neg fun z => c3 z.2
          rw [hT2]
          by_cases c3 : t.pieces.lookup i = none
          · rw [if_pos c3, if_pos ⟨by rw [a8]; exact c3, hmm⟩]
            refine keep _ _ (.inr (.inl ⟨a1, a2, a3, a4, a5, a6, a7, by show f.taken ++ _ = _; rw [a8], a9, a10, fun q hq => ?_, a12⟩)) ?_
            · rcases List.mem_append.mp hq with hq | hq
              · exact a11 q hq
              · rw [List.mem_singleton.mp hq]
                show (pcs t.number)[i.toNat]? = some z
                rw [← a6, ← c2]
                exact k3
            · refine ⟨?_, fun q hq => ?_, o.small.1, fun q hq => ?_, o.small.2.2⟩
              · show ((f.taken ++ [(i, z)]).map (·.1)).Nodup
                rw [List.map_append, List.nodup_append]
                refine ⟨o.keys, by simp, fun a ha b hb e => ?_⟩
                rw [List.mem_singleton.mp hb] at e
                have e : a = i := e
                subst e
                rw [a8] at ha
                exact lookup_none.mp c3 ha
              · rcases List.mem_append.mp hq with hq | hq
                · exact o.range q hq
                · rw [List.mem_singleton.mp hq]; exact ⟨i0, by show i < f.many; rw [← hmm]; exact im⟩
              · rcases List.mem_append.mp hq with hq | hq
                · exact o.small.2.1 q hq
                · rw [List.mem_singleton.mp hq]; exact z1
          · rw [if_neg c3, if_neg fun z => c3 (by rw [← a8]; exact z.1)]
            exact I
        · rw [if_neg c2]
          exact fr2 _ a3 (by omega) a4 rfl rfl rfl rfl rfl a12 rfl
    · refine same _ _ ?_ (tp_runs a4)
      unfold TakerS.receive
      rw [if_pos a3]
  | go hp k =>
    replace hh : hp = 1 := hh
    subst hh
    have hk : 1 ≤ k := hok.2
    have hE : f.receive 3 (.go 1 k) = f.takeGo 3 1 k := rfl
    rw [hE]
    rcases I.fr with ⟨q1, q2⟩ | ⟨a1, a2, a3, a4, a5, a6, a7, a8, a9, a10, a11, a12⟩ | ⟨a1, a2, a3, a4, a5, a6, a7⟩
    · refine same _ _ ?_ (tg_no ?_)
      · rw [q1]
        unfold TakerS.receive
        rw [if_neg (by decide)]
        exact if_neg fun z => by have : k = 0 := z.1; omega
      · rw [q2]; rintro ⟨z, _⟩; revert z; decide
    · have G := I.pc _ a1 a2
      have g1 := G.n0
      have g2 := G.n1
      have hw : f.whole = t.whole := by
        unfold HostS.whole TakerS.whole
        rw [a7, a8, a9, decide_eq_true (by omega : 0 < t.many), decide_eq_true (by omega : 0 < t.number)]
        rfl
      have hT : t.receive (.go 1 k) = if k = t.number ∧ t.whole = true then { t with runs := true } else t := by unfold TakerS.receive; rw [if_neg (by rw [a3]; decide)]
      rw [hT]
      unfold HostS.takeGo
      by_cases c : k = t.number ∧ t.whole = true
      · rw [if_pos c, if_pos ⟨a4, ⟨a5.symm, by omega, a7⟩, by rw [hw]; exact c.2⟩]
        have hl : (f.taken.length : Int) = f.many := by
          have := c.2
          unfold TakerS.whole at this
          simp only [Bool.and_eq_true, decide_eq_true_eq] at this
          rw [a8, a9]
          exact this.2
        have hjn : f.joined = tx := by
          rw [joined_one o hl (by rw [a9, a10]) (by rw [a8]; exact a11)]
          exact G.jn
        refine keep _ _ (.inr (.inr ⟨a1, a2, rfl, rfl, by show some f.joined = _; rw [hjn], by show some ((3 : Int), f.hop, f.tri) = _; rw [a5, a6], ⟨?_, g2, ?_, fun q hq => ⟨?_, a11 q hq⟩, fun z hz => (G.sm z hz).1⟩⟩)) ⟨List.nodup_nil, fun q hq => (by cases hq), o.small.1, fun q hq => (by cases hq), o.small.2.2⟩
        · show t.pieces.length = (pcs t.number).length
          rw [a8] at hl
          omega
        · show (t.pieces.map (·.1)).Nodup
          rw [← a8]; exact o.keys
        · rw [← a8] at hq
          exact (o.range q hq).1
      · rw [if_neg c, if_neg (show ¬ (f.phase = "away" ∧ ((1 : Int) = f.hop ∧ k = f.tri ∧ f.frm = some 3) ∧ f.whole = true) from fun z => c ⟨by have := z.2.1.2.1; omega, by rw [← hw]; exact z.2.2⟩)]
        exact I
    · refine same _ _ ?_ (tg_runs a4)
      unfold TakerS.receive
      rw [if_pos a3]
/-! ### what is told -/
theorem mo_giver (I : One tx pcs g t n f) {m : Msg} (h : m ∈ g.msgs) : MO pcs g true m := by
  unfold GiverS.msgs at h
  rcases I.ph with q | q | q | q
  · rw [if_neg (by rw [q.1]; exact ph9), if_neg (by rw [q.1]; exact fun z => ph8 z.1)] at h
    cases h
  · rw [if_pos q.1] at h
    obtain ⟨i, hi, rfl⟩ := List.mem_map.mp h
    have hi' := List.mem_range.mp hi
    obtain ⟨_, _, _, _, _, q5, q6, _⟩ := q
    have G := I.pc _ q6 (Int.le_refl _)
    have g2 := G.n1
    rw [← q5] at G g2
    have hz : g.pieces[i]? = some g.pieces[i] := List.getElem?_eq_getElem hi'
    have hz2 : g.pieces.getD i Str.empty = g.pieces[i] := by rw [List.getD_eq_getElem?_getD, hz]; rfl
    have hs := G.sm _ (List.getElem_mem hi')
    refine ⟨⟨Int.le_refl _, q6, by omega, by omega, by omega, ?_, ?_⟩, rfl, Int.le_refl _, by rw [← q5], ?_⟩
    · rw [hz2]; exact hs.1
    · rw [hz2]; exact hs.2
    · rw [← q5, hz2, show ((i : Int)).toNat = i from Int.toNat_natCast i]
      exact hz
  · rw [if_neg (by rw [q.1]; exact ph6), if_pos ⟨q.1, q.2.1⟩] at h
    rw [List.mem_singleton.mp h]
    exact ⟨⟨Int.le_refl _, q.2.2.2.2⟩, rfl, trivial⟩
  · rw [if_neg (by rw [q.1]; exact ph6), if_neg (by rw [q.2.1]; exact fun z => Bool.noConfusion z.2)] at h
    cases h
theorem mo_taker (I : One tx pcs g t n f) {m : Msg} (h : m ∈ t.msgs) : MO pcs g false m := by
  unfold TakerS.msgs at h
  rcases I.fr with ⟨q1, q2⟩ | q | q
  · rw [q1] at h
    rw [if_neg (by decide), if_neg (by decide)] at h
    cases h
  · rw [if_neg (by rw [q.2.2.1]; decide)] at h
    split at h
    · rw [List.mem_singleton.mp h]
      exact ⟨⟨Int.le_refl _, q.1⟩, rfl, trivial⟩
    · cases h
  · rw [if_pos q.2.2.1] at h
    rw [List.mem_singleton.mp h]
    exact ⟨⟨Int.le_refl _, q.1⟩, rfl, trivial⟩
theorem giver_len (I : One tx pcs g t n f) : g.msgs.length ≤ 64 := by
  unfold GiverS.msgs
  split
  · rename_i c
    rw [List.length_map, List.length_range]
    rcases I.ph with q | q | q | q
    · exact absurd (q.1.symm.trans c) ph9
    · have := (I.pc _ q.2.2.2.2.2.2.1 (Int.le_refl _)).n1
      rw [q.2.2.2.2.2.1]
      omega
    · exact absurd (q.1.symm.trans c) ph6
    · exact absurd (q.1.symm.trans c) ph6
  · split
    · show 1 ≤ 64; decide
    · show 0 ≤ 64; decide
theorem taker_len : t.msgs.length ≤ 1 := by
  unfold TakerS.msgs
  split
  · exact Nat.le_refl _
  · split
    · exact Nat.le_refl _
    · exact Nat.zero_le _
theorem giver_pcs (I : One tx pcs g t n f) (hp : g.phase = "frozen") : g.pieces.length ≤ 1000 := by
  rcases I.ph with q | q | q | q
  · exact absurd (q.1.symm.trans hp) ph9
  · have := (I.pc _ q.2.2.2.2.2.2.1 (Int.le_refl _)).n1
    rw [q.2.2.2.2.2.1]
    omega
  · exact absurd (q.1.symm.trans hp) ph6
  · exact absurd (q.1.symm.trans hp) ph6
theorem taker_pcs (I : One tx pcs g t n f) : t.pieces.length ≤ 1000 := by
  rcases I.fr with ⟨q1, q2⟩ | ⟨a1, a2, a3, a4, a5, a6, a7, a8, _⟩ | ⟨a1, a2, a3, a4, a5, a6, a7⟩
  · rw [q1]; exact Nat.zero_le _
  · rw [← a8]; exact I.fok.few
  · rw [a7.len]; have := a7.few; omega
def gknows (g : GiverS) : Bool := decide (g.phase = "given") && g.known
theorem one_phase (I : One tx pcs g t n f) : n.phase = if gknows g = true then ("away" : Str) else g.phase := by
  unfold gknows
  rcases I.ph with q | q | q | q
  · rw [q.1, q.2.1]; rfl
  · rw [q.1, q.2.1]; rfl
  · rw [q.1, q.2.1, q.2.2.1]; rfl
  · rw [q.1, q.2.1, q.2.2.1]; rfl
theorem one_nrun (I : One tx pcs g t n f) : n.running = if g.phase = "runs" then some tx else none := by
  unfold HostS.running
  rcases I.ph with q | q | q | q
  · rw [if_pos q.2.1, if_pos q.1]; exact q.2.2.1
  · rw [if_neg (by rw [q.2.1]; exact ph12), if_neg (by rw [q.1]; exact ph12)]
  · rw [if_neg (by rw [q.2.2.1]; exact ph5), if_neg (by rw [q.1]; exact ph5)]
  · rw [if_neg (by rw [q.2.2.1]; exact ph2), if_neg (by rw [q.1]; exact ph5)]
theorem one_frun (I : One tx pcs g t n f) : f.running = if t.runs = true then some tx else none := by
  unfold HostS.running
  rcases I.fr with ⟨q1, q2⟩ | ⟨a1, a2, a3, a4, _⟩ | ⟨a1, a2, a3, a4, a5, _⟩
  · rw [q1, q2, if_neg (by exact ph2), if_neg (by decide)]
  · rw [if_neg (by rw [a4]; exact ph2), if_neg (by rw [a3]; decide)]
  · rw [if_pos a4, if_pos a3]; exact a5
theorem one_fphase (I : One tx pcs g t n f) : f.phase = if t.runs = true then ("runs" : Str) else "away" := by
  rcases I.fr with ⟨q1, q2⟩ | ⟨a1, a2, a3, a4, _⟩ | ⟨a1, a2, a3, a4, a5, _⟩
  · rw [q1, q2, if_neg (by decide)]; rfl
  · rw [if_neg (by rw [a3]; decide)]; exact a4
  · rw [if_pos a3]; exact a4
def hopD (k : Int) (m : Msg) : PyData := .tuple [.int k, m.d]
theorem one_nmsgs (I : One tx pcs g t n f) : n.msgsD = g.msgs.map (hopD 8) := by
  obtain ⟨hop, tri, frm, came⟩ := I.nr
  have hw : n.whole = false := by unfold HostS.whole; rw [frm]; rfl
  unfold HostS.msgsD GiverS.msgs
  rw [hw, came, hop, tri]
  rcases I.ph with q | q | q | q
  · rw [q.1, q.2.1, if_neg ph9, if_neg ph8, if_neg (fun z => ph7 z.1), if_neg ph9, if_neg fun z => ph8 z.1]; rfl
  · rw [q.1, q.2.1, if_pos rfl, if_neg ph11, if_neg (fun z => ph10 z.1), if_pos rfl, q.2.2.2.1, q.2.2.2.2.1, List.map_map]
    simp only [List.append_nil]
    rfl
  · rw [q.1, q.2.2.1, if_neg ph6, if_pos rfl, if_neg (fun z => ph4 z.1), if_neg ph6, if_pos ⟨rfl, q.2.1⟩, q.2.2.2.1]
    rfl
  · rw [q.1, q.2.2.1, if_neg ph3, if_neg ph1, if_neg (fun z => Bool.noConfusion z.2), if_neg ph6, if_neg (by rw [q.2.1]; exact fun z => Bool.noConfusion z.2)]
    rfl
theorem one_fmsgs (I : One tx pcs g t n f) : f.msgsD = t.msgs.map (hopD 3) := by
  unfold HostS.msgsD TakerS.msgs
  rcases I.fr with ⟨q1, q2⟩ | ⟨a1, a2, a3, a4, a5, a6, a7, a8, a9, a10, a11, a12⟩ | ⟨a1, a2, a3, a4, a5, a6, a7⟩
  · rw [q1, q2]
    have hw : (HostS.new 8).whole = false := rfl
    rw [hw, if_neg (by exact ph3), if_neg (by exact ph1), if_neg (fun z => Bool.noConfusion z.2), if_neg (by decide), if_neg (by decide)]
    rfl
  · have G := I.pc _ a1 a2
    have g1 := G.n0
    have hw : f.whole = t.whole := by
      unfold HostS.whole TakerS.whole
      rw [a7, a8, a9, decide_eq_true (by omega : 0 < t.many), decide_eq_true (by omega : 0 < t.number)]
      rfl
    rw [hw, a12, a4, a3, if_neg ph3, if_neg ph1]
    rw [if_neg (show ¬ (false = true) by decide)]
    by_cases c : t.whole = true
    · rw [if_pos ⟨rfl, c⟩, if_pos c, a7, a5, a6]; rfl
    · rw [if_neg fun z => c z.2, if_neg c]; rfl
  · rw [a4, a6, if_neg ph9, if_neg ph8, if_neg (fun z => ph7 z.1), if_pos a3]
    rfl
theorem one_full (I : One tx pcs g t n f) (h : t.runs = true) : t.Full (pcs t.number) ∧ Txt.join Str.empty (pcs t.number) = tx := by
  rcases I.fr with ⟨q1, q2⟩ | ⟨a1, a2, a3, _⟩ | ⟨a1, a2, a3, a4, a5, a6, a7⟩
  · rw [q1] at h; cases h
  · rw [a3] at h; cases h
  · exact ⟨a7, (I.pc _ a1 a2).jn⟩
theorem one_begin {n : HostS} (h : n = { HostS.new 3 with phase := "runs", text := some tx }) : One tx (fun _ => []) GiverS.new TakerS.new n (HostS.new 8) := by
  subst h
  refine ⟨fun k h1 h2 => ?_, Int.le_refl _, rfl, ⟨rfl, rfl, rfl, rfl⟩, ?_, .inl ⟨rfl, rfl, rfl, rfl, rfl⟩, .inl ⟨rfl, rfl⟩, HostS.new_ok 8⟩
  · have : k ≤ 0 := h2
    omega
  · have o := HostS.new_ok 3
    exact ⟨o.keys, o.range, o.small⟩
end
end Rel
end
section
/-! the world of one hop beside a giver and a taker -/
namespace Rel
open PySem PySem.Spec PyProof.Rows L2 Evl
/-! ### weaker evaluation: data that may be shared -/
def EvW (te : TE) (σ : L2.St) (H : Hp) (d : PyData) : Prop := ∀ H1, Ex H H1 → ∀ Q : VK, (∀ v H2, Ex H1 H2 → Da N0 H2 v d → Q v H2) → te σ H1 Q
def EvWA (ta : TA) (σ : L2.St) (H : Hp) (ds : List PyData) : Prop := ∀ H1, Ex H H1 → ∀ Q : List V → Hp → Prop, (∀ vs H2, Ex H1 H2 → DaAll N0 H2 vs ds → Q vs H2) → ta σ H1 Q
section
variable {K : PySem.W.Frag} {σ : L2.St} {H : Hp} {te ta tb tl : TE} {tA : TA} {t u : TT} {d d' : PyData} {ds ds' : List PyData} {v : V} {i : Nat} {tz tu tw : TS} {D : Ends} {Q : VK} {QT : Bool → Hp → Prop} {vs : List Nat} {b : Bool}
theorem ew_ed (h : EvD te σ H d) : EvW te σ H d := fun H1 e Q q => h H1 e Q fun v H2 e2 hd => q v H2 e2 hd.zero
theorem ew_nil : EvWA tNil σ H [] := fun H1 _ _ q => q [] H1 (Ex.refl H1) .nil
theorem ew_cons (h : EvW te σ H d) (hr : EvWA tA σ H ds) : EvWA (tCons te tA) σ H (d :: ds) := fun H1 e _ q =>
  h H1 e _ fun v H2 e2 hv => hr H2 (e.trans e2) _ fun vs H3 e3 hs => q _ H3 (e2.trans e3) (.cons (hv.ex e3) hs)
theorem ew_lst (h : EvWA tA σ H ds) (hl : ds.length ≤ 100000) : EvW (tLst tA) σ H (.list ds) := fun H1 e _ q =>
  h H1 e _ fun vs H2 e2 hs => ⟨by rw [hs.length]; exact sz_of hl, fun p hp => q _ _ (e2.trans (Ex.new hp)) (.lst upd_same id (hs.ex (Ex.new hp)))⟩
theorem ew_if (h : EvT t σ H b) (h1 : b = true → EvW ta σ H d) (h2 : b = false → EvW tb σ H d) : EvW (tIf t ta tb) σ H d := fun H1 e Q q => h H1 e _ fun H2 e2 => by
  cases b with
  | true => exact h1 rfl H2 (e.trans e2) Q fun v H3 e3 => q v H3 (e2.trans e3)
  | false => exact h2 rfl H2 (e.trans e2) Q fun v H3 e3 => q v H3 (e2.trans e3)
theorem ew_cat (ha : EvW ta σ H (.list ds)) (hb : EvW tb σ H (.list ds')) (hl : ds.length + ds'.length ≤ 100000) : EvW (tOp rCat ta tb) σ H (.list (ds ++ ds')) := fun H1 e Q q =>
  ha H1 e _ fun v H2 e2 hv => hb H2 (e.trans e2) _ fun u H3 e3 hu => by
    obtain ⟨a, xs, rfl, h1, _, h2⟩ := hv.lst_inv
    obtain ⟨b, ys, rfl, h3, _, h4⟩ := hu.lst_inv
    refine ⟨a, b, xs, ys, rfl, rfl, e3 _ _ h1, h3, sz_of (by rw [h2.length, h4.length]; exact hl), fun p hp => q _ _ ((e2.trans e3).trans (Ex.new hp)) (.lst upd_same id ?_)⟩
    exact ((h2.ex e3).append h4).ex (Ex.new hp)
theorem ew_lcL {j : Nat} (h : EvW tl σ H (.list ds)) (hz : ds.length ≤ 40000) (hw : ∀ x, wipe ((wipe σ vs).set j (some x)) vs = wipe σ vs) (f : Nat → PyData)
    (he : ∀ (i : Nat) (x : V) (dx : PyData) (Hb : Hp), Ex H Hb → Da N0 Hb x dx → ds[i]? = some dx → EvD te ((wipe σ vs).set j (some x)) Hb (f i)) : EvW (tLc (iList K tl) (gName j) tYes te vs) σ H (.list (givenD ds.length (fun _ => true) f)) := fun H1 e Q q =>
  h H1 e _ fun v H2 e2 hd => by
    obtain ⟨a, xs, rfl, h1, _, h2⟩ := hd.lst_inv
    refine ⟨a, rfl, ⟨xs, sq_of h1⟩, fun D hD => ?_⟩
    have hl := h2.length
    rw [← hl] at hz q
    refine lc_ed (H := H2) (walk_list (xs := xs)) (fun _ => true) f hz (Ex.refl H2) (fun H3 e3 => sq_of (e3 _ _ h1)) ?_ hD (fun H' e' hd' => q _ _ (e2.trans e') hd'.zero)
    rintro i x H3 H4 hi e3 ⟨rfl, hx⟩ R hR
    obtain ⟨dx, hdx, hda⟩ := h2.get hx
    exact hR _ _ (Ex.refl _) (hw x) et_yes fun _ => he i x dx H2 (e.trans e2) hda hdx
theorem ev_eqW (ha : EvW ta σ H d) (hb : EvD tb σ H d') (h1 : SeqAt.shaped d = true) (h2 : SeqAt.shaped d' = true) : Ev (tOp (rEqD K) ta tb) σ H (.bl (PyData.eqv d d')) := fun H1 e Q q =>
  ha H1 e _ fun v H2 e2 hv => hb H2 (e.trans e2) _ fun u H3 e3 hu => ⟨d, d', (hv.ex e3).dp, hu.dp, h1, h2, q H3 (e2.trans e3)⟩
theorem q_asgW (h : EvW te σ H d) (k : ∀ v H1, Ex H H1 → Da N0 H1 v d → tz D (σ.set i (some v)) H1) : tSeq (tAsg te (gName i)) tz D σ H := h H (Ex.refl H) _ fun v H1 e hd => k v H1 e hd
theorem tx_evD (h : EvD te σ H d) (k : ∀ v H1, Ex H H1 → Da N0 H1 v d → Q v H1) : te σ H Q := h H (Ex.refl H) Q fun v H1 e hd => k v H1 e hd.zero
theorem tx_not (h : t σ H fun b H1 => QT (!b) H1) : tNot t σ H QT := h
theorem tx_B (h : te σ H fun x H' => ∃ k, x = .bl k ∧ QT k H') : tB te σ H QT := h
theorem tx_tup {tt : TA} (h : tt σ H fun xs H1 => xs.length ≤ sizeLine ∧ ∀ p, H1 p = none → Q (.ref p) (upd H1 p (.tup xs))) : tTup tt σ H Q := h
theorem sx_whenK (h : t σ H fun b H1 => if b = true then tu D σ H1 else D.nx σ H1) : tIfS t tu tNext D σ H := h
theorem sx_dropK {te : TE} (h : te σ H fun _ H1 => D.nx σ H1) : tDrop te D σ H := h
theorem ex_min2 {i j : Int} (ha : Ev ta σ H (.int i)) (hb : Ev tb σ H (.int j)) : Ev (tCB (fun xs H Q => ∃ i j, xs = [V.int i, V.int j] ∧ Q (.int (if j < i then j else i)) H) (tCons ta (tCons tb tNil))) σ H (.int (if j < i then j else i)) := fun H1 e Q q =>
  ha H1 e _ fun H2 e2 => hb H2 (e.trans e2) _ fun H3 e3 => ⟨i, j, rfl, q H3 (e2.trans e3)⟩
end
/-! ### what stays -/
structure Kp (xi xd xl : Addr → Prop) (H H' : Hp) : Prop where
  i : ∀ a C dx fs, ¬ xi a → H a = some (.ins C dx fs) → H' a = some (.ins C dx fs)
  d : ∀ a kvs, ¬ xd a → H a = some (.dK kvs) → H' a = some (.dK kvs)
  l : ∀ a xs, ¬ xl a → H a = some (.lst xs) → H' a = some (.lst xs)
  t : ∀ a xs, H a = some (.tup xs) → H' a = some (.tup xs)
def No : Addr → Prop := fun _ => False
theorem Kp.ex {H H' : Hp} (e : Ex H H') : Kp No No No H H' := ⟨fun a _ _ _ _ h => e a _ h, fun a _ _ h => e a _ h, fun a _ _ h => e a _ h, fun a _ h => e a _ h⟩
theorem Kp.frm {p td C dx : Addr} {fs : List (Str × V)} {kvs : List (Key × V)} {H H' : Hp} (fr : Frm p td H H') (hp : H p = some (.ins C dx fs)) (ht : H td = some (.dK kvs)) : Kp (· = p) (· = td) No H H' :=
  ⟨fun a _ _ _ n h => fr a _ n (by rintro rfl; rw [ht] at h; cases h) h, fun a _ n h => fr a _ (by rintro rfl; rw [hp] at h; cases h) n h,
   fun a _ _ h => fr a _ (by rintro rfl; rw [hp] at h; cases h) (by rintro rfl; rw [ht] at h; cases h) h, fun a _ h => fr a _ (by rintro rfl; rw [hp] at h; cases h) (by rintro rfl; rw [ht] at h; cases h) h⟩
theorem Kp.butI {p C dx : Addr} {fs : List (Str × V)} {H H' : Hp} (b : But p H H') (hp : H p = some (.ins C dx fs)) : Kp (· = p) No No H H' :=
  ⟨fun a _ _ _ n h => b a _ n h, fun a _ n h => b a _ (by rintro rfl; rw [hp] at h; cases h) h, fun a _ _ h => b a _ (by rintro rfl; rw [hp] at h; cases h) h, fun a _ h => b a _ (by rintro rfl; rw [hp] at h; cases h) h⟩
theorem Kp.butL {p : Addr} {zs : List V} {H H' : Hp} (b : But p H H') (hp : H p = some (.lst zs)) : Kp No No (· = p) H H' :=
  ⟨fun a _ _ _ _ h => b a _ (by rintro rfl; rw [hp] at h; cases h) h, fun a _ _ h => b a _ (by rintro rfl; rw [hp] at h; cases h) h, fun a _ n h => b a _ n h, fun a _ h => b a _ (by rintro rfl; rw [hp] at h; cases h) h⟩
section
variable {xi xd xl : Addr → Prop} {H H' : Hp}
theorem Kp.da (k : Kp xi xd xl H H') {v : V} {d : PyData} (hn : noL d = true) (h : Da N0 H v d) : Da N0 H' v d := h.toT (fun a o ho q n => by
  cases o with
  | tup xs => exact ⟨k.t a xs q, n⟩
  | _ => exact ho.elim) hn
theorem Kp.giver (k : Kp xi xd xl H H') {C p pl : Addr} {s : GiverS} (h : GiverAt C H p pl s) (n1 : ¬ xi p) (n2 : ¬ xl pl) : GiverAt C H' p pl s := let ⟨dx, a⟩ := h; ⟨dx, k.i _ _ _ _ n1 a.p_, k.l _ _ n2 a.l_⟩
theorem Kp.taker (k : Kp xi xd xl H H') {C p td : Addr} {s : TakerS} (h : TakerAt C H p td s) (n1 : ¬ xi p) (n2 : ¬ xd td) : TakerAt C H' p td s := let ⟨dx, a⟩ := h; ⟨dx, k.i _ _ _ _ n1 a.p_, k.d _ _ n2 a.t_⟩
theorem Kp.host (k : Kp xi xd xl H H') {C p td pl : Addr} {s : HostS} (h : HostAt C H p td pl s) (n1 : ¬ xi p) (n2 : ¬ xd td) (n3 : ¬ xl pl) : HostAt C H' p td pl s := by
  obtain ⟨⟨dx, cm, h1, h2⟩, h3, h4⟩ := h
  exact ⟨⟨dx, cm, k.i _ _ _ _ n1 h1, k.da (noL_came _) h2⟩, k.d _ _ n2 h3, k.l _ _ n3 h4⟩
end
/-! ### the air -/
def far? : Bool → Str
  | true => "taker"
  | false => "giver"
def AirAt (H : Hp) (a : Addr) (far : Bool) (m : Msg) : Prop := ∃ v, H a = some (.lst [.str (far? far), v]) ∧ Da N0 H v m.sd
theorem Kp.airAt {xi xd xl : Addr → Prop} {H H' : Hp} (k : Kp xi xd xl H H') {a : Addr} {far : Bool} {m : Msg} (h : AirAt H a far m) (n : ¬ xl a) : AirAt H' a far m :=
  let ⟨v, h1, h2⟩ := h; ⟨v, k.l _ _ n h1, k.da (noL_sd m) h2⟩
structure Air where
  a : Addr
  far : Bool
  m : Msg
structure Vr where
  pg : Addr
  tt : Addr
  tn : Addr
  pn : Addr
  tf : Addr
  pf : Addr
structure W6V (C G T pt po gv tk nr fr : Addr) (b : Int) (g : GiverS) (t : TakerS) (n f : HostS) (os : List Air) (r : Vr) (H : Hp) : Prop where
  tin : Tin H pt b
  air : H po = some (.lst (os.map fun q => V.ref q.a))
  giv : GiverAt G H gv r.pg g
  tak : TakerAt T H tk r.tt t
  near : HostAt C H nr r.tn r.pn n
  far : HostAt C H fr r.tf r.pf f
  nd : r.tt ≠ r.tn ∧ r.tt ≠ r.tf ∧ r.tn ≠ r.tf
  np : (r.pg ≠ pt ∧ r.pg ≠ po) ∧ (r.pn ≠ pt ∧ r.pn ≠ po) ∧ (r.pf ≠ pt ∧ r.pf ≠ po)
  ne : gv ≠ tk ∧ gv ≠ nr ∧ gv ≠ fr ∧ tk ≠ nr ∧ tk ≠ fr ∧ nr ≠ fr
  npt : pt ≠ po
  msg : ∀ q ∈ os, AirAt H q.a q.far q.m ∧ q.a ≠ pt ∧ q.a ≠ po
def W6 (C G T pt po gv tk nr fr : Addr) (b : Int) (g : GiverS) (t : TakerS) (n f : HostS) (os : List Air) (H : Hp) : Prop := ∃ r, W6V C G T pt po gv tk nr fr b g t n f os r H
theorem GiverAt.some {C p pl : Addr} {H : Hp} {s : GiverS} (h : GiverAt C H p pl s) : (∃ dx fs, H p = some (.ins C dx fs)) ∧ ∃ xs, H pl = some (.lst xs) := let ⟨dx, a⟩ := h; ⟨⟨dx, _, a.p_⟩, _, a.l_⟩
theorem TakerAt.some {C p td : Addr} {H : Hp} {s : TakerS} (h : TakerAt C H p td s) : (∃ dx fs, H p = some (.ins C dx fs)) ∧ ∃ kvs, H td = some (.dK kvs) := let ⟨dx, a⟩ := h; ⟨⟨dx, _, a.p_⟩, _, a.t_⟩
theorem HostAt.some {C p td pl : Addr} {H : Hp} {s : HostS} (h : HostAt C H p td pl s) : (∃ dx fs, H p = some (.ins C dx fs)) ∧ (∃ kvs, H td = some (.dK kvs)) ∧ ∃ xs, H pl = some (.lst xs) := let ⟨⟨dx, cm, a, _⟩, b, c⟩ := h; ⟨⟨dx, _, a⟩, ⟨_, b⟩, _, c⟩
theorem ne_new {H : Hp} {a b : Addr} {o : HO} (h : H a = none) (h2 : H b = some o) : a ≠ b := by rintro rfl; rw [h] at h2; cases h2
/-- old or new, but not that one -/
theorem on_ne {H : Hp} {a a' c : Addr} {o : HO} (h : a' = a ∨ H a' = none) (hn : a ≠ c) (hc : H c = some o) : a' ≠ c := by
  rcases h with rfl | h
  · exact hn
  · exact ne_new h hc
section
variable {C G T pt po gv tk nr fr : Addr} {b b' : Int} {g g' : GiverS} {t t' : TakerS} {n n' f f' : HostS} {os : List Air} {H H' : Hp}
theorem W6.ex (w : W6 C G T pt po gv tk nr fr b g t n f os H) (e : Ex H H') : W6 C G T pt po gv tk nr fr b g t n f os H' := by
  obtain ⟨r, w⟩ := w
  have k := Kp.ex e
  exact ⟨r, w.tin.ex e, e _ _ w.air, k.giver w.giv id id, k.taker w.tak id id, k.host w.near id id id, k.host w.far id id id, w.nd, w.np, w.ne, w.npt, fun q hq => ⟨k.airAt (w.msg q hq).1 id, (w.msg q hq).2⟩⟩
theorem W6.le (w : W6 C G T pt po gv tk nr fr b g t n f os H) (h : b ≤ b') : W6 C G T pt po gv tk nr fr b' g t n f os H := by
  obtain ⟨r, w⟩ := w
  exact ⟨r, { w with tin := w.tin.le h }⟩
theorem W6.tin (w : W6 C G T pt po gv tk nr fr b g t n f os H) : Tin H pt b := let ⟨_, w⟩ := w; w.tin
theorem W6.air (w : W6 C G T pt po gv tk nr fr b g t n f os H) : H po = some (.lst (os.map fun q => V.ref q.a)) := let ⟨_, w⟩ := w; w.air
theorem W6.msg (w : W6 C G T pt po gv tk nr fr b g t n f os H) : ∀ q ∈ os, AirAt H q.a q.far q.m := let ⟨_, w⟩ := w; fun q hq => (w.msg q hq).1
theorem W6.box (w : W6 C G T pt po gv tk nr fr b g t n f os H) (ht : Tin H' pt b') (e : But pt H H') : W6 C G T pt po gv tk nr fr b' g t n f os H' := by
  obtain ⟨r, w⟩ := w
  obtain ⟨A, B, D, ht0, _⟩ := w.tin
  have k := Kp.butL e ht0
  exact ⟨r, ht, e _ _ (Ne.symm w.npt) w.air, k.giver w.giv id w.np.1.1, k.taker w.tak id id, k.host w.near id id w.np.2.1.1, k.host w.far id id w.np.2.2.1, w.nd, w.np, w.ne, w.npt, fun q hq => ⟨k.airAt (w.msg q hq).1 (w.msg q hq).2.1, (w.msg q hq).2⟩⟩
theorem W6.app (w : W6 C G T pt po gv tk nr fr b g t n f os H) {q : Air} (h1 : AirAt H q.a q.far q.m) (h2 : q.a ≠ pt) (h3 : q.a ≠ po) : W6 C G T pt po gv tk nr fr b g t n f (os ++ [q]) (upd H po (.lst (os.map (fun q => V.ref q.a) ++ [.ref q.a]))) := by
  obtain ⟨r, w⟩ := w
  have e : But po H (upd H po (.lst (os.map (fun q => V.ref q.a) ++ [.ref q.a]))) := But.upd
  have k := Kp.butL e w.air
  refine ⟨r, w.tin.but e w.npt, ?_, k.giver w.giv id w.np.1.2, k.taker w.tak id id, k.host w.near id id w.np.2.1.2, k.host w.far id id w.np.2.2.2, w.nd, w.np, w.ne, w.npt, fun x hx => ?_⟩
  · rw [List.map_append]; exact upd_same
  · rcases List.mem_append.mp hx with hx | hx
    · exact ⟨k.airAt (w.msg x hx).1 (w.msg x hx).2.2, (w.msg x hx).2⟩
    · rw [List.mem_singleton.mp hx]
      exact ⟨k.airAt h1 h3, h2, h3⟩
theorem W6.giver (w : W6 C G T pt po gv tk nr fr b g t n f os H) : ∃ pg, GiverAt G H gv pg g ∧ ∀ pl' H' g', GiverAt G H' gv pl' g' → (pl' = pg ∨ H pl' = none) → But gv H H' → W6 C G T pt po gv tk nr fr b g' t n f os H' := by
  obtain ⟨r, w⟩ := w
  refine ⟨r.pg, w.giv, fun pl' H' g' hh hp bb => ?_⟩
  obtain ⟨dx, fs, hg⟩ := w.giv.some.1
  have k := Kp.butI bb hg
  obtain ⟨A, B, D, ht0, t1⟩ := w.tin
  obtain ⟨n1, n2, n3, n4, n5, n6⟩ := w.ne
  refine ⟨{ r with pg := pl' }, ⟨A, B, D, k.l _ _ id ht0, t1⟩, k.l _ _ id w.air, hh, k.taker w.tak (Ne.symm n1) id, k.host w.near (Ne.symm n2) id id, k.host w.far (Ne.symm n3) id id, w.nd, ⟨⟨on_ne hp w.np.1.1 ht0, on_ne hp w.np.1.2 w.air⟩, w.np.2⟩, w.ne, w.npt, fun q hq => ⟨k.airAt (w.msg q hq).1 id, (w.msg q hq).2⟩⟩
theorem W6.taker (w : W6 C G T pt po gv tk nr fr b g t n f os H) : ∃ tt, TakerAt T H tk tt t ∧ ∀ td' H' t', TakerAt T H' tk td' t' → (td' = tt ∨ H td' = none) → Frm tk tt H H' → W6 C G T pt po gv tk nr fr b g t' n f os H' := by
  obtain ⟨r, w⟩ := w
  refine ⟨r.tt, w.tak, fun td' H' t' hh hp fm => ?_⟩
  obtain ⟨⟨dx, fs, hg⟩, kvs, hd⟩ := w.tak.some
  have k := Kp.frm fm hg hd
  obtain ⟨A, B, D, ht0, t1⟩ := w.tin
  obtain ⟨n1, n2, n3, n4, n5, n6⟩ := w.ne
  obtain ⟨d1, d2, d3⟩ := w.nd
  obtain ⟨_, ⟨_, hn2⟩, _⟩ := w.near.some
  obtain ⟨_, ⟨_, hf2⟩, _⟩ := w.far.some
  refine ⟨{ r with tt := td' }, ⟨A, B, D, k.l _ _ id ht0, t1⟩, k.l _ _ id w.air, k.giver w.giv n1 id, hh, k.host w.near (Ne.symm n4) (Ne.symm d1) id, k.host w.far (Ne.symm n5) (Ne.symm d2) id, ⟨on_ne hp d1 hn2, on_ne hp d2 hf2, d3⟩, w.np, w.ne, w.npt, fun q hq => ⟨k.airAt (w.msg q hq).1 id, (w.msg q hq).2⟩⟩
theorem W6.near (w : W6 C G T pt po gv tk nr fr b g t n f os H) : ∃ td pl, HostAt C H nr td pl n ∧ ∀ td' pl' H' n', HostAt C H' nr td' pl' n' → (td' = td ∨ H td' = none) → (pl' = pl ∨ H pl' = none) → Frm nr td H H' → W6 C G T pt po gv tk nr fr b g t n' f os H' := by
  obtain ⟨r, w⟩ := w
  refine ⟨r.tn, r.pn, w.near, fun td' pl' H' n' hh hp hpl fm => ?_⟩
  obtain ⟨⟨dx, fs, hg⟩, ⟨kvs, hd⟩, _⟩ := w.near.some
  have k := Kp.frm fm hg hd
  obtain ⟨A, B, D, ht0, t1⟩ := w.tin
  obtain ⟨n1, n2, n3, n4, n5, n6⟩ := w.ne
  obtain ⟨d1, d2, d3⟩ := w.nd
  obtain ⟨_, ⟨_, hn2⟩⟩ := w.tak.some
  obtain ⟨_, ⟨_, hf2⟩, _⟩ := w.far.some
  refine ⟨{ r with tn := td', pn := pl' }, ⟨A, B, D, k.l _ _ id ht0, t1⟩, k.l _ _ id w.air, k.giver w.giv n2 id, k.taker w.tak n4 d1, hh, k.host w.far (Ne.symm n6) (Ne.symm d3) id, ⟨Ne.symm (on_ne hp (Ne.symm d1) hn2), d2, on_ne hp d3 hf2⟩, ⟨w.np.1, ⟨on_ne hpl w.np.2.1.1 ht0, on_ne hpl w.np.2.1.2 w.air⟩, w.np.2.2⟩, w.ne, w.npt, fun q hq => ⟨k.airAt (w.msg q hq).1 id, (w.msg q hq).2⟩⟩
theorem W6.far (w : W6 C G T pt po gv tk nr fr b g t n f os H) : ∃ td pl, HostAt C H fr td pl f ∧ ∀ td' pl' H' f', HostAt C H' fr td' pl' f' → (td' = td ∨ H td' = none) → (pl' = pl ∨ H pl' = none) → Frm fr td H H' → W6 C G T pt po gv tk nr fr b g t n f' os H' := by
  obtain ⟨r, w⟩ := w
  refine ⟨r.tf, r.pf, w.far, fun td' pl' H' n' hh hp hpl fm => ?_⟩
  obtain ⟨⟨dx, fs, hg⟩, ⟨kvs, hd⟩, _⟩ := w.far.some
  have k := Kp.frm fm hg hd
  obtain ⟨A, B, D, ht0, t1⟩ := w.tin
  obtain ⟨n1, n2, n3, n4, n5, n6⟩ := w.ne
  obtain ⟨d1, d2, d3⟩ := w.nd
  obtain ⟨_, ⟨_, hn2⟩⟩ := w.tak.some
  obtain ⟨_, ⟨_, hf2⟩, _⟩ := w.near.some
  refine ⟨{ r with tf := td', pf := pl' }, ⟨A, B, D, k.l _ _ id ht0, t1⟩, k.l _ _ id w.air, k.giver w.giv n3 id, k.taker w.tak n5 d2, k.host w.near n6 d3 id, hh, ⟨d1, Ne.symm (on_ne hp (Ne.symm d2) hn2), Ne.symm (on_ne hp (Ne.symm d3) hf2)⟩, ⟨w.np.1, w.np.2.1, on_ne hpl w.np.2.2.1 ht0, on_ne hpl w.np.2.2.2 w.air⟩, w.ne, w.npt, fun q hq => ⟨k.airAt (w.msg q hq).1 id, (w.msg q hq).2⟩⟩
end
/-! ### the air as data -/
def airD (q : Air) : PyData := .list [.str (far? q.far), q.m.sd]
theorem sd_lay {m : Msg} (h : m.ok) : m.sd.canLay0 = true ∧ m.sd.depth ≤ 2 := by
  cases m with
  | piece a b c d z =>
    have hz : okS z = true := h.2.2.2.2.2.2
    have hz' : PyData.strOk z = true := hz
    simp [Msg.sd, Msg.sit, PyData.canLay0, PyData.canLayAll0, PyData.depth, PyData.depthAll]
    exact ⟨by decide +kernel, hz'⟩
  | whole a b => simp [Msg.sd, Msg.sit, PyData.canLay0, PyData.canLayAll0, PyData.depth, PyData.depthAll]; decide +kernel
  | go a b => simp [Msg.sd, Msg.sit, PyData.canLay0, PyData.canLayAll0, PyData.depth, PyData.depthAll]; decide +kernel
  | going a b => simp [Msg.sd, Msg.sit, PyData.canLay0, PyData.canLayAll0, PyData.depth, PyData.depthAll]; decide +kernel
theorem strOk_far (b : Bool) : PyData.strOk (far? b) = true := by cases b <;> decide +kernel
theorem list_shaped {l : List PyData} {k : Nat} (h : ∀ d ∈ l, d.canLay0 = true ∧ d.depth ≤ k) (hk : k ≤ 60) : SeqAt.shaped (.list l) = true := by
  have h1 : PyData.canLayAll0 l = true ∧ PyData.depthAll l ≤ k := by
    clear hk
    induction l with
    | nil => exact ⟨by simp [PyData.canLayAll0], by simp [PyData.depthAll]⟩
    | cons r l ih =>
      obtain ⟨a, b⟩ := h r List.mem_cons_self
      obtain ⟨c, d⟩ := ih fun x hx => h x (List.mem_cons_of_mem _ hx)
      refine ⟨by simp [PyData.canLayAll0, a, c], ?_⟩
      simp only [PyData.depthAll]
      omega
  show (PyData.canLay0 (.list l) && decide (PyData.depth (.list l) ≤ 64)) = true
  rw [Bool.and_eq_true]
  refine ⟨by simp only [PyData.canLay0]; exact h1.1, decide_eq_true ?_⟩
  have := h1.2
  simp only [PyData.depth]
  omega
theorem sds_shaped {l : List Msg} (h : ∀ m ∈ l, m.ok) : SeqAt.shaped (.list (l.map Msg.sd)) = true := list_shaped (k := 2) (fun d hd => by
  obtain ⟨m, hm, rfl⟩ := List.mem_map.mp hd
  exact sd_lay (h m hm)) (by decide)
theorem airs_shaped {l : List Air} (h : ∀ q ∈ l, q.m.ok) : SeqAt.shaped (.list (l.map airD)) = true := list_shaped (k := 4) (fun d hd => by
  obtain ⟨q, hq, rfl⟩ := List.mem_map.mp hd
  obtain ⟨a, b⟩ := sd_lay (h q hq)
  refine ⟨by simp [airD, PyData.canLay0, PyData.canLayAll0, a, strOk_far], ?_⟩
  simp only [airD, PyData.depth, PyData.depthAll]
  omega) (by decide)
theorem AirAt.da {H : Hp} {q : Air} (h : AirAt H q.a q.far q.m) : Da N0 H (.ref q.a) (airD q) := by
  obtain ⟨v, h1, h2⟩ := h
  exact .lst h1 id (.cons (.str _) (.cons h2 .nil))
theorem W6.airD {C G T pt po gv tk nr fr : Addr} {b : Int} {g : GiverS} {t : TakerS} {n f : HostS} {os : List Air} {H : Hp} (w : W6 C G T pt po gv tk nr fr b g t n f os H) : Da N0 H (.ref po) (.list (os.map airD)) := by
  refine .lst w.air id ?_
  have : ∀ l : List Air, (∀ q ∈ l, q ∈ os) → DaAll N0 H (l.map fun q => V.ref q.a) (l.map Rel.airD) := by
    intro l
    induction l with
    | nil => intro _; exact .nil
    | cons q l ih => intro hl; exact .cons (w.msg q (hl q List.mem_cons_self)).da (ih fun x hx => hl x (List.mem_cons_of_mem _ hx))
  exact this os fun q hq => hq
/-! ### told messages as data, by hops -/
def hopF : PyData → PyData
  | .tuple (x :: xs) => .tuple (x :: .int 1 :: xs)
  | d => d
theorem hopF_sd {m : Msg} (h : m.hop = 1) : hopF m.sd = m.d := by
  cases m <;> (have h : _ = (1 : Int) := h; subst h; rfl)
theorem okD_sameL {k : Int} {l : List Msg} (hl : l.length ≤ 1000) : okD 4 (.list (l.map (hopD k))) := by
  refine ⟨by rw [List.length_map]; omega, fun d hd => ?_⟩
  obtain ⟨m, _, rfl⟩ := List.mem_map.mp hd
  refine ⟨by show 2 ≤ 30000; decide, fun d hd => ?_⟩
  simp only [List.mem_cons, List.not_mem_nil, or_false] at hd
  rcases hd with rfl | rfl
  · trivial
  · cases m <;> refine ⟨by simp [Msg.items], fun d hd => ?_⟩ <;> simp only [Msg.items, List.mem_cons, List.not_mem_nil, or_false] at hd <;> (rcases hd with rfl | rfl | rfl | rfl | rfl | rfl) <;> trivial
theorem givenD_hop {l : List Msg} {k : Int} : givenD (l.map Msg.sd).length (fun _ => true) (fun i => hopD k (l.getD i (.go 1 1))) = l.map (hopD k) := by
  rw [givenD_all, List.length_map]
  refine List.ext_getElem? fun i => ?_
  rw [List.getElem?_map, List.getElem?_map]
  by_cases h : i < l.length
  · rw [List.getElem?_range h, List.getElem?_eq_getElem h]
    show some (hopD k (l.getD i (.go 1 1))) = some (hopD k l[i])
    rw [List.getD_eq_getElem?_getD, List.getElem?_eq_getElem h]
    rfl
  · rw [List.getElem?_eq_none (by rw [List.length_range]; omega), List.getElem?_eq_none (by omega)]
    rfl
end Rel
namespace Rel
open PySem PySem.Spec PyProof.Rows L2 Evl
theorem Kp.daL {xi xd : Addr → Prop} {H H' : Hp} (k : Kp xi xd No H H') {v : V} {d : PyData} (h : Da N0 H v d) : Da N0 H' v d := h.toS fun a o so q n => by
  cases o with
  | lst xs => exact ⟨k.l a xs id q, n⟩
  | tup xs => exact ⟨k.t a xs q, n⟩
  | _ => exact so.elim
section
variable {α : Type} {args : α → List V} {preH : α → HostS → Hp → Prop} {resH : α → HostS → HostS} {valH : α → HostS → V}
variable {K : PySem.W.Frag} {σ : L2.St} {H : Hp} {te : TE} {ta : TA} {p C td pl : Addr} {m : Str} {s : HostS} {g : GiverS} {t : TakerS} {D : Ends} {E E2 : XK} {Q : VK}
theorem m_H (a : α) (h : Ev te σ H (.ref p)) (hx : EvA ta σ H (args a)) (ho : HostAt C H p td pl s) (hp : ∀ H', Ex H H' → preH a s H')
    (k : ∀ (td' pl' : Addr) (H' : Hp), HostAt C H' p td' pl' (resH a s) → (td' = td ∨ H td' = none) → (pl' = pl ∨ H pl' = none) → Frm p td H H' → Q (valH a s) H')
    (hm : m ∈ (["number", "phase", "hop", "running", "begin", "freeze", "resume", "receive", "take_answer", "leave", "take_piece", "is_whole", "take_go", "messages"] : List Str) := by simp) : tMeth C m (spM C α args preH resH valH) [] E te ta σ H Q :=
  h H (Ex.refl H) _ fun H1 e1 => by
    have h1 := ho.exx e1
    obtain ⟨dx, cm, a1⟩ := h1.ha
    refine ⟨p, dx, _, rfl, a1.p_, fl_no hm, hx H1 e1 _ fun H2 e2 => ⟨a, p, td, pl, s, by rw [List.append_nil], h1.exx e2, hp H2 (e1.trans e2), fun td' pl' H' hh ht hp fr => ?_⟩⟩
    exact k td' pl' H' hh (ht.imp id fun z => fresh_back (e1.trans e2) z) (hp.imp id fun z => fresh_back (e1.trans e2) z) (fun c o n n2 q => fr c o n n2 ((e1.trans e2) c o q))
theorem ew_gmsgs (h : Ev te σ H (.ref p)) (ho : GiverAt C H p pl g) (hl : g.phase = "frozen" → g.pieces.length ≤ 1000) : EvW (tMeth C "messages" (spGMsgs C) [] E te tNil) σ H (.list (g.msgs.map Msg.sd)) := fun H1 e Q q =>
  h H1 e _ fun H2 e2 => by
    obtain ⟨dx, a2⟩ := ho.ex (e.trans e2)
    exact ⟨p, dx, _, rfl, a2.p_, gl_no (by simp), p, pl, g, rfl, ⟨dx, a2⟩, hl, fun q' xs H3 hq e3 h3 d3 => q _ H3 (e2.trans e3) (.lst h3 id d3)⟩
theorem ew_kmsgs (h : Ev te σ H (.ref p)) (ho : TakerAt C H p td t) : EvW (tMeth C "messages" (spKMsgs C) [] E te tNil) σ H (.list (t.msgs.map Msg.sd)) := fun H1 e Q q =>
  h H1 e _ fun H2 e2 => by
    obtain ⟨dx, a2⟩ := ho.ex (e.trans e2)
    exact ⟨p, dx, _, rfl, a2.p_, kl_no (by simp), p, td, t, rfl, ⟨dx, a2⟩, fun q' xs H3 hq e3 h3 d3 => q _ H3 (e2.trans e3) (.lst h3 id d3)⟩
theorem ew_hmsgs (h : Ev te σ H (.ref p)) (ho : HostAt C H p td pl s) (hl : s.pieces.length ≤ 1000) : EvW (tMeth C "messages" (spMsgs C) [] E te tNil) σ H (.list s.msgsD) := fun H1 e Q q =>
  h H1 e _ fun H2 e2 => by
    have h2 := ho.exx (e.trans e2)
    obtain ⟨dx, cm, a2⟩ := h2.ha
    exact ⟨p, dx, _, rfl, a2.p_, fl_no (by simp), p, td, pl, s, rfl, h2, hl, fun q' xs H3 hq e3 h3 d3 => q _ H3 (e2.trans e3) (.lst h3 id d3)⟩
/-- what is told, in a new list -/
theorem m_gmsgs (h : Ev te σ H (.ref p)) (ho : GiverAt C H p pl g) (hl : g.phase = "frozen" → g.pieces.length ≤ 1000) (k : ∀ q xs H', H q = none → Ex H H' → H' q = some (.lst xs) → DaAll N0 H' xs (g.msgs.map Msg.sd) → Q (.ref q) H') : tMeth C "messages" (spGMsgs C) [] E te tNil σ H Q :=
  h H (Ex.refl H) _ fun H2 e2 => by
    obtain ⟨dx, a2⟩ := ho.ex e2
    exact ⟨p, dx, _, rfl, a2.p_, gl_no (by simp), p, pl, g, rfl, ⟨dx, a2⟩, hl, fun q' xs H3 hq e3 h3 d3 => k q' xs H3 (fresh_back e2 hq) (e2.trans e3) h3 d3⟩
theorem m_kmsgs (h : Ev te σ H (.ref p)) (ho : TakerAt C H p td t) (k : ∀ q xs H', H q = none → Ex H H' → H' q = some (.lst xs) → DaAll N0 H' xs (t.msgs.map Msg.sd) → Q (.ref q) H') : tMeth C "messages" (spKMsgs C) [] E te tNil σ H Q :=
  h H (Ex.refl H) _ fun H2 e2 => by
    obtain ⟨dx, a2⟩ := ho.ex e2
    exact ⟨p, dx, _, rfl, a2.p_, kl_no (by simp), p, td, t, rfl, ⟨dx, a2⟩, fun q' xs H3 hq e3 h3 d3 => k q' xs H3 (fresh_back e2 hq) (e2.trans e3) h3 d3⟩
def CHop : PyData → Prop := fun d => ∃ m : Msg, d = m.sd
theorem t_pick {Pr : Int → Hp → Prop} (hk : ∀ r H', Pr r H' → Q (.int r) H') (h : ∀ Q' : VK, (∀ r H', Pr r H' → Q' (.int r) H') → te σ H Q') : te σ H Q := h Q hk
theorem mk_giver {x dx : Addr} (hx : H x = none) (hdx : H dx = none) (ne : dx ≠ x) (k : ∀ pl H', GiverAt C H' x pl GiverS.new → H pl = none → Ex H H' → Q .non H') : spGI C (.ref x :: ([] ++ [])) (upd (upd H dx (.own x)) x (.ins C dx [])) Q E := by
  have hx2 : (upd H dx (.own x)) x = none := by rw [upd_ne (Ne.symm ne)]; exact hx
  have e1 : Ex H (upd (upd H dx (.own x)) x (.ins C dx [])) := (Ex.new hdx).trans (Ex.new hx2)
  exact ⟨x, dx, rfl, upd_same, fun pl H' hh hp bb => k pl H' hh (fresh_back e1 hp) fun c o hc => bb c o (by rintro rfl; rw [hx] at hc; cases hc) (e1 c o hc)⟩
theorem mk_taker {x dx : Addr} (hx : H x = none) (hdx : H dx = none) (ne : dx ≠ x) (k : ∀ td H', TakerAt C H' x td TakerS.new → H td = none → Ex H H' → Q .non H') : spKI C (.ref x :: ([] ++ [])) (upd (upd H dx (.own x)) x (.ins C dx [])) Q E := by
  have hx2 : (upd H dx (.own x)) x = none := by rw [upd_ne (Ne.symm ne)]; exact hx
  have e1 : Ex H (upd (upd H dx (.own x)) x (.ins C dx [])) := (Ex.new hdx).trans (Ex.new hx2)
  exact ⟨x, dx, rfl, upd_same, fun pl H' hh hp bb => k pl H' hh (fresh_back e1 hp) fun c o hc => bb c o (by rintro rfl; rw [hx] at hc; cases hc) (e1 c o hc)⟩
theorem mk_host {x dx : Addr} {c : Int} (hx : H x = none) (hdx : H dx = none) (ne : dx ≠ x) (c0 : 0 ≤ c) (k : ∀ td pl H', HostAt C H' x td pl (HostS.new c) → H td = none → H pl = none → Ex H H' → Q .non H') : spInit C (.ref x :: ([.int c] ++ [])) (upd (upd H dx (.own x)) x (.ins C dx [])) Q E := by
  have hx2 : (upd H dx (.own x)) x = none := by rw [upd_ne (Ne.symm ne)]; exact hx
  have e1 : Ex H (upd (upd H dx (.own x)) x (.ins C dx [])) := (Ex.new hdx).trans (Ex.new hx2)
  exact ⟨x, dx, c, rfl, upd_same, c0, fun td pl H' hh ht hp bb => k td pl H' hh (fresh_back e1 ht) (fresh_back e1 hp) fun c o hc => bb c o (by rintro rfl; rw [hx] at hc; cases hc) (e1 c o hc)⟩
end
end Rel
namespace Rel
open PySem PySem.Spec PyProof.Rows L2 Evl
theorem knows_eq (g : GiverS) : (decide (V.str g.phase = V.str "given") && PyData.eqv (.list (g.msgs.map Msg.sd)) (.list [])) = gknows g := by
  rw [eqv_nil]
  unfold gknows
  by_cases c : g.phase = "given"
  · have h : g.msgs = if g.phase = "given" ∧ g.known = false then [.go 1 g.number] else [] := by unfold GiverS.msgs; rw [if_neg (by rw [c]; exact ph6)]
    rw [h, c]
    cases g.known with
    | true => rw [if_neg (fun z => Bool.noConfusion z.2)]; simp
    | false => rw [if_pos ⟨rfl, rfl⟩]; simp
  · have h : ¬ V.str g.phase = V.str "given" := fun z => c (V.str.inj z)
    rw [decide_eq_false h, decide_eq_false c]
    rfl
section
variable {K : PySem.W.Frag} {σ : L2.St} {H : Hp} {te : TE} {p C td : Addr} {t : TakerS} {E : XK} {zs : List Str} {tx : Str} {vs : List Nat} {ms : List Msg} {j : Nat} {k : Int}
theorem ev_runO (h : Ev te σ H (.ref p)) (ho : TakerAt C H p td t) (hf : t.runs = true → t.Full zs ∧ Txt.join Str.empty zs = tx) : Ev (tMeth C "running" (spKRun C) [] E te tNil) σ H (oS (if t.runs = true then some tx else none)) := by
  have h1 := ev_runT (E := E) h ho (fun r => (hf r).1)
  by_cases c : t.runs = true
  · rw [if_pos c] at h1 ⊢
    rw [(hf c).2] at h1
    exact h1
  · rw [if_neg c] at h1 ⊢
    exact h1
theorem ew_hops (h : EvW te σ H (.list (ms.map Msg.sd))) (hm : ∀ m ∈ ms, m.hop = 1) (hl : ms.length ≤ 1000) (hw : ∀ x, wipe ((wipe σ vs).set j (some x)) vs = wipe σ vs) (hj : ∀ x, ((wipe σ vs).set j (some x))[j]? = some (some x)) :
    EvW (tLc (iList K te) (gName j) tYes (tTup (tCons (tC (.int k)) (tCons (tCall (spFun hopF CHop) [] E (tCons (tVar j) tNil)) tNil))) vs) σ H (.list (ms.map (hopD k))) := by
  rw [← givenD_hop]
  refine ew_lcL h (by rw [List.length_map]; omega) hw _ fun i x dx Hb eb hx hd => ?_
  rw [List.getElem?_map] at hd
  obtain ⟨m, hmi, rfl⟩ := Option.map_eq_some_iff.mp hd
  rw [List.getD_eq_getElem?_getD, hmi]
  show EvD _ _ _ (hopD k m)
  unfold hopD
  rw [← hopF_sd (hm m (List.mem_of_getElem? hmi))]
  exact ed_tup (da_cons (ed_int ev_c) (da_cons (ed_call (da_cons (ed_var (hj x) hx) da_nil) (spFun_D ⟨m, rfl⟩)) da_nil)) (of_decide_eq_true rfl)
end
end Rel
end
section
/-! the row treethaw_k77_across_one_hop_and_a_giver: its defs by places, its names -/
namespace Rel
open PySem PySem.Spec PyProof.Rows L2 Evl
def top (i : Nat) : Stmt := PySem.Challenge.pw_treethaw_k77_across_one_hop_and_a_giver.main.body.getD i (.Pass ⟨0, 0, 0, 0⟩)
abbrev FnP (K : PySem.W.Frag) (x qual : Str) (st : Stmt) (f : Addr) (fd : FuncData) : Prop := FunD K x qual (defArgs st) (defBody st) (defScope st) [] [] f fd
abbrev sis_number : Stmt := top 1
abbrev nis_number : List Str := ["thing"]
theorem scis_number : FnScope nis_number ["thing"] (defScope sis_number) := ⟨rfl, rfl, rfl, by decide +kernel, rfl, by decide +kernel, by decide +kernel⟩
abbrev sNotNow___init__ : Stmt := inClass (top 3) 0
abbrev nNotNow___init__ : List Str := ["self", "word"]
theorem scNotNow___init__ : FnScope nNotNow___init__ ["self", "word"] (defScope sNotNow___init__) := ⟨rfl, rfl, rfl, by decide +kernel, rfl, by decide +kernel, by decide +kernel⟩
abbrev sas_tuples : Stmt := top 7
abbrev nas_tuples : List Str := ["thing", "part"]
theorem scas_tuples : FnScope nas_tuples ["thing"] (defScope sas_tuples) := ⟨rfl, rfl, rfl, by decide +kernel, rfl, by decide +kernel, by decide +kernel⟩
abbrev sis_relay_message : Stmt := top 18
abbrev nis_relay_message : List Str := ["thing", "part", "index", "many", "text"]
theorem scis_relay_message : FnScope nis_relay_message ["thing"] (defScope sis_relay_message) := ⟨rfl, rfl, rfl, by decide +kernel, rfl, by decide +kernel, by decide +kernel⟩
abbrev sHost___init__ : Stmt := inClass (top 19) 0
abbrev nHost___init__ : List Str := ["self", "number"]
theorem scHost___init__ : FnScope nHost___init__ ["self", "number"] (defScope sHost___init__) := ⟨rfl, rfl, rfl, by decide +kernel, rfl, by decide +kernel, by decide +kernel⟩
abbrev sHost_number : Stmt := inClass (top 19) 1
abbrev nHost_number : List Str := ["self"]
theorem scHost_number : FnScope nHost_number ["self"] (defScope sHost_number) := ⟨rfl, rfl, rfl, by decide +kernel, rfl, by decide +kernel, by decide +kernel⟩
abbrev sHost_phase : Stmt := inClass (top 19) 2
abbrev nHost_phase : List Str := ["self"]
theorem scHost_phase : FnScope nHost_phase ["self"] (defScope sHost_phase) := ⟨rfl, rfl, rfl, by decide +kernel, rfl, by decide +kernel, by decide +kernel⟩
abbrev sHost_hop : Stmt := inClass (top 19) 3
abbrev nHost_hop : List Str := ["self"]
theorem scHost_hop : FnScope nHost_hop ["self"] (defScope sHost_hop) := ⟨rfl, rfl, rfl, by decide +kernel, rfl, by decide +kernel, by decide +kernel⟩
abbrev sHost_running : Stmt := inClass (top 19) 4
abbrev nHost_running : List Str := ["self"]
theorem scHost_running : FnScope nHost_running ["self"] (defScope sHost_running) := ⟨rfl, rfl, rfl, by decide +kernel, rfl, by decide +kernel, by decide +kernel⟩
abbrev sHost_begin : Stmt := inClass (top 19) 5
abbrev nHost_begin : List Str := ["self", "text"]
theorem scHost_begin : FnScope nHost_begin ["self", "text"] (defScope sHost_begin) := ⟨rfl, rfl, rfl, by decide +kernel, rfl, by decide +kernel, by decide +kernel⟩
abbrev sHost_freeze : Stmt := inClass (top 19) 6
abbrev nHost_freeze : List Str := ["self", "goal", "pieces"]
theorem scHost_freeze : FnScope nHost_freeze ["self", "goal", "pieces"] (defScope sHost_freeze) := ⟨rfl, rfl, rfl, by decide +kernel, rfl, by decide +kernel, by decide +kernel⟩
abbrev sHost_resume : Stmt := inClass (top 19) 7
abbrev nHost_resume : List Str := ["self"]
theorem scHost_resume : FnScope nHost_resume ["self"] (defScope sHost_resume) := ⟨rfl, rfl, rfl, by decide +kernel, rfl, by decide +kernel, by decide +kernel⟩
abbrev sHost_receive : Stmt := inClass (top 19) 8
abbrev nHost_receive : List Str := ["self", "sender", "message", "told"]
theorem scHost_receive : FnScope nHost_receive ["self", "sender", "message"] (defScope sHost_receive) := ⟨rfl, rfl, rfl, by decide +kernel, rfl, by decide +kernel, by decide +kernel⟩
abbrev sHost_take_answer : Stmt := inClass (top 19) 9
abbrev nHost_take_answer : List Str := ["self", "word"]
theorem scHost_take_answer : FnScope nHost_take_answer ["self", "word"] (defScope sHost_take_answer) := ⟨rfl, rfl, rfl, by decide +kernel, rfl, by decide +kernel, by decide +kernel⟩
abbrev sHost_leave : Stmt := inClass (top 19) 10
abbrev nHost_leave : List Str := ["self"]
theorem scHost_leave : FnScope nHost_leave ["self"] (defScope sHost_leave) := ⟨rfl, rfl, rfl, by decide +kernel, rfl, by decide +kernel, by decide +kernel⟩
abbrev sHost_take_piece : Stmt := inClass (top 19) 11
abbrev nHost_take_piece : List Str := ["self", "sender", "message", "hop", "number", "index", "many", "text"]
theorem scHost_take_piece : FnScope nHost_take_piece ["self", "sender", "message"] (defScope sHost_take_piece) := ⟨rfl, rfl, rfl, by decide +kernel, rfl, by decide +kernel, by decide +kernel⟩
abbrev sHost_is_whole : Stmt := inClass (top 19) 12
abbrev nHost_is_whole : List Str := ["self"]
theorem scHost_is_whole : FnScope nHost_is_whole ["self"] (defScope sHost_is_whole) := ⟨rfl, rfl, rfl, by decide +kernel, rfl, by decide +kernel, by decide +kernel⟩
abbrev sHost_take_go : Stmt := inClass (top 19) 13
abbrev nHost_take_go : List Str := ["self", "sender", "message", "told", "index"]
theorem scHost_take_go : FnScope nHost_take_go ["self", "sender", "message"] (defScope sHost_take_go) := ⟨rfl, rfl, rfl, by decide +kernel, rfl, by decide +kernel, by decide +kernel⟩
abbrev sHost_messages : Stmt := inClass (top 19) 14
abbrev nHost_messages : List Str := ["self", "found", "many", "index", "text"]
theorem scHost_messages : FnScope nHost_messages ["self"] (defScope sHost_messages) := ⟨rfl, rfl, rfl, by decide +kernel, rfl, by decide +kernel, by decide +kernel⟩
abbrev sare_pieces : Stmt := top 20
abbrev nare_pieces : List Str := ["thing", "text"]
theorem scare_pieces : FnScope nare_pieces ["thing"] (defScope sare_pieces) := ⟨rfl, rfl, rfl, by decide +kernel, rfl, by decide +kernel, by decide +kernel⟩
abbrev scut : Stmt := top 29
abbrev ncut : List Str := ["text", "size", "begin", "found"]
theorem sccut : FnScope ncut ["text", "size"] (defScope scut) := ⟨rfl, rfl, rfl, by decide +kernel, rfl, by decide +kernel, by decide +kernel⟩
abbrev sGiver___init__ : Stmt := inClass (top 30) 0
abbrev nGiver___init__ : List Str := ["self"]
theorem scGiver___init__ : FnScope nGiver___init__ ["self"] (defScope sGiver___init__) := ⟨rfl, rfl, rfl, by decide +kernel, rfl, by decide +kernel, by decide +kernel⟩
abbrev sGiver_phase : Stmt := inClass (top 30) 1
abbrev nGiver_phase : List Str := ["self"]
theorem scGiver_phase : FnScope nGiver_phase ["self"] (defScope sGiver_phase) := ⟨rfl, rfl, rfl, by decide +kernel, rfl, by decide +kernel, by decide +kernel⟩
abbrev sGiver_freeze : Stmt := inClass (top 30) 2
abbrev nGiver_freeze : List Str := ["self", "pieces"]
theorem scGiver_freeze : FnScope nGiver_freeze ["self", "pieces"] (defScope sGiver_freeze) := ⟨rfl, rfl, rfl, by decide +kernel, rfl, by decide +kernel, by decide +kernel⟩
abbrev sGiver_resume : Stmt := inClass (top 30) 3
abbrev nGiver_resume : List Str := ["self"]
theorem scGiver_resume : FnScope nGiver_resume ["self"] (defScope sGiver_resume) := ⟨rfl, rfl, rfl, by decide +kernel, rfl, by decide +kernel, by decide +kernel⟩
abbrev sGiver_receive : Stmt := inClass (top 30) 4
abbrev nGiver_receive : List Str := ["self", "message", "told"]
theorem scGiver_receive : FnScope nGiver_receive ["self", "message"] (defScope sGiver_receive) := ⟨rfl, rfl, rfl, by decide +kernel, rfl, by decide +kernel, by decide +kernel⟩
abbrev sGiver_messages : Stmt := inClass (top 30) 5
abbrev nGiver_messages : List Str := ["self", "number", "many", "index", "text"]
theorem scGiver_messages : FnScope nGiver_messages ["self"] (defScope sGiver_messages) := ⟨rfl, rfl, rfl, by decide +kernel, rfl, by decide +kernel, by decide +kernel⟩
abbrev sTaker___init__ : Stmt := inClass (top 31) 0
abbrev nTaker___init__ : List Str := ["self"]
theorem scTaker___init__ : FnScope nTaker___init__ ["self"] (defScope sTaker___init__) := ⟨rfl, rfl, rfl, by decide +kernel, rfl, by decide +kernel, by decide +kernel⟩
abbrev sTaker_is_whole : Stmt := inClass (top 31) 1
abbrev nTaker_is_whole : List Str := ["self"]
theorem scTaker_is_whole : FnScope nTaker_is_whole ["self"] (defScope sTaker_is_whole) := ⟨rfl, rfl, rfl, by decide +kernel, rfl, by decide +kernel, by decide +kernel⟩
abbrev sTaker_keep : Stmt := inClass (top 31) 2
abbrev nTaker_keep : List Str := ["self", "number", "index", "many", "text"]
theorem scTaker_keep : FnScope nTaker_keep ["self", "number", "index", "many", "text"] (defScope sTaker_keep) := ⟨rfl, rfl, rfl, by decide +kernel, rfl, by decide +kernel, by decide +kernel⟩
abbrev sTaker_receive : Stmt := inClass (top 31) 3
abbrev nTaker_receive : List Str := ["self", "message", "word", "number", "rest"]
theorem scTaker_receive : FnScope nTaker_receive ["self", "message"] (defScope sTaker_receive) := ⟨rfl, rfl, rfl, by decide +kernel, rfl, by decide +kernel, by decide +kernel⟩
abbrev sTaker_messages : Stmt := inClass (top 31) 4
abbrev nTaker_messages : List Str := ["self"]
theorem scTaker_messages : FnScope nTaker_messages ["self"] (defScope sTaker_messages) := ⟨rfl, rfl, rfl, by decide +kernel, rfl, by decide +kernel, by decide +kernel⟩
abbrev sTaker_running : Stmt := inClass (top 31) 5
abbrev nTaker_running : List Str := ["self", "index"]
theorem scTaker_running : FnScope nTaker_running ["self"] (defScope sTaker_running) := ⟨rfl, rfl, rfl, by decide +kernel, rfl, by decide +kernel, by decide +kernel⟩
abbrev s_law_box : Stmt := top 33
abbrev n_law_box : List Str := ["script", "k", "bit_so"]
theorem sc_law_box : FnScope n_law_box ["script", "k"] (defScope s_law_box) := ⟨rfl, rfl, rfl, by decide +kernel, rfl, by decide +kernel, by decide +kernel⟩
abbrev s_law_take : Stmt := top 34
abbrev n_law_take : List Str := ["tin", "below_so", "drawn_so", "once_so", "wide_so", "twice_so"]
theorem sc_law_take : FnScope n_law_take ["tin", "below_so"] (defScope s_law_take) := ⟨rfl, rfl, rfl, by decide +kernel, rfl, by decide +kernel, by decide +kernel⟩
abbrev s_law_cells : Stmt := top 35
abbrev n_law_cells : List Str := ["script", "most_so", "cells_so", "k", "bit_so", "at_so"]
theorem sc_law_cells : FnScope n_law_cells ["script", "most_so"] (defScope s_law_cells) := ⟨rfl, rfl, rfl, by decide +kernel, rfl, by decide +kernel, by decide +kernel⟩
abbrev s_law_same : Stmt := top 36
abbrev n_law_same : List Str := ["got", "due", "mine", "its"]
theorem sc_law_same : FnScope n_law_same ["got", "due"] (defScope s_law_same) := ⟨rfl, rfl, rfl, by decide +kernel, rfl, by decide +kernel, by decide +kernel⟩
abbrev s_law_as_hop : Stmt := top 37
abbrev n_law_as_hop : List Str := ["told_so"]
theorem sc_law_as_hop : FnScope n_law_as_hop ["told_so"] (defScope s_law_as_hop) := ⟨rfl, rfl, rfl, by decide +kernel, rfl, by decide +kernel, by decide +kernel⟩
abbrev slaw : Stmt := top 38
abbrev nlaw : List Str := ["script", "tin", "giver", "taker", "near", "far", "text_so", "air_so", "lap", "kind_so", "pieces_so", "own", "at_so", "goal_so", "told_so", "knows_so", "got", "due"]
theorem sclaw : FnScope nlaw ["script"] (defScope slaw) := ⟨rfl, rfl, rfl, by decide +kernel, rfl, by decide +kernel, by decide +kernel⟩
structure Txt (K : PySem.W.Frag) (mg : Str → Option Value) (w : World) where
  tAWAY : Tok
  gAWAY : mg "AWAY" = some (.str "away" tAWAY)
  tRUNS_relay : Tok
  gRUNS_relay : mg "RUNS_relay" = some (.str "runs" tRUNS_relay)
  tFROZEN_relay : Tok
  gFROZEN_relay : mg "FROZEN_relay" = some (.str "frozen" tFROZEN_relay)
  tGIVEN_relay : Tok
  gGIVEN_relay : mg "GIVEN_relay" = some (.str "given" tGIVEN_relay)
  tPIECE_relay : Tok
  gPIECE_relay : mg "PIECE_relay" = some (.str "piece" tPIECE_relay)
  tWHOLE_relay : Tok
  gWHOLE_relay : mg "WHOLE_relay" = some (.str "whole" tWHOLE_relay)
  tGO_relay : Tok
  gGO_relay : mg "GO_relay" = some (.str "go" tGO_relay)
  tGOING_relay : Tok
  gGOING_relay : mg "GOING_relay" = some (.str "going" tGOING_relay)
  tRUNS_moving : Tok
  gRUNS_moving : mg "RUNS_moving" = some (.str "runs" tRUNS_moving)
  tFROZEN_moving : Tok
  gFROZEN_moving : mg "FROZEN_moving" = some (.str "frozen" tFROZEN_moving)
  tGIVEN_moving : Tok
  gGIVEN_moving : mg "GIVEN_moving" = some (.str "given" tGIVEN_moving)
  tPIECE_moving : Tok
  gPIECE_moving : mg "PIECE_moving" = some (.str "piece" tPIECE_moving)
  tWHOLE_moving : Tok
  gWHOLE_moving : mg "WHOLE_moving" = some (.str "whole" tWHOLE_moving)
  tGO_moving : Tok
  gGO_moving : mg "GO_moving" = some (.str "go" tGO_moving)
  tGOING_moving : Tok
  gGOING_moving : mg "GOING_moving" = some (.str "going" tGOING_moving)
  n_int : mg "int" = none
  n_len : mg "len" = none
  n_abs : mg "abs" = none
  n_isinstance : mg "isinstance" = none
  n_list : mg "list" = none
  n_tuple : mg "tuple" = none
  n_str : mg "str" = none
  n_bool : mg "bool" = none
  n_all : mg "all" = none
  n_any : mg "any" = none
  n_range : mg "range" = none
  n_enumerate : mg "enumerate" = none
  n_zip : mg "zip" = none
  n_min : mg "min" = none
  n_max : mg "max" = none
  n_LookupError : mg "LookupError" = none
  n_ValueError : mg "ValueError" = none
  n_RuntimeError : mg "RuntimeError" = none
  n_dict : mg "dict" = none
  n_sorted : mg "sorted" = none
  aNotNow : Addr
  gNotNow : mg "NotNow" = some (.ref aNotNow)
  aUnfit : Addr
  gUnfit : mg "Unfit" = some (.ref aUnfit)
  aHost : Addr
  gHost : mg "Host" = some (.ref aHost)
  cHost : Cls K aHost
  oHost_own_number : NoAttr K aHost "own_number"
  oHost_own_phase : NoAttr K aHost "own_phase"
  oHost_own_hop : NoAttr K aHost "own_hop"
  oHost_own_try : NoAttr K aHost "own_try"
  oHost_own_text : NoAttr K aHost "own_text"
  oHost_own_goal : NoAttr K aHost "own_goal"
  oHost_own_pieces : NoAttr K aHost "own_pieces"
  oHost_own_taken : NoAttr K aHost "own_taken"
  oHost_own_from : NoAttr K aHost "own_from"
  oHost_own_many : NoAttr K aHost "own_many"
  oHost_own_came : NoAttr K aHost "own_came"
  aGiver : Addr
  gGiver : mg "Giver" = some (.ref aGiver)
  cGiver : Cls K aGiver
  oGiver_own_phase : NoAttr K aGiver "own_phase"
  oGiver_own_number : NoAttr K aGiver "own_number"
  oGiver_own_pieces : NoAttr K aGiver "own_pieces"
  oGiver_own_is_known : NoAttr K aGiver "own_is_known"
  aTaker : Addr
  gTaker : mg "Taker" = some (.ref aTaker)
  cTaker : Cls K aTaker
  oTaker_own_number : NoAttr K aTaker "own_number"
  oTaker_own_many : NoAttr K aTaker "own_many"
  oTaker_own_pieces : NoAttr K aTaker "own_pieces"
  oTaker_own_runs : NoAttr K aTaker "own_runs"
  aSHAPES : Addr
  gSHAPES : mg "SHAPES" = some (.ref aSHAPES)
  dSHAPES : DicC K w aSHAPES [("piece", 6), ("whole", 3), ("go", 3), ("going", 3)] ["goes"]
end Rel
end
section
open PySem PySem.Spec PyProof.Rows L2 Evl Rel
local macro_rules | `(tactic| walk_at "hp") => `(tactic| first | assumption | exact upd_same)
local macro_rules | `(tactic| walk_at "mem") => `(tactic| first | exact List.Mem.head _ | exact List.Mem.tail _ (List.Mem.head _) | exact List.Mem.tail _ (List.Mem.tail _ (List.Mem.head _)) | exact List.Mem.tail _ (List.Mem.tail _ (List.Mem.tail _ (List.Mem.head _))))
local macro_rules | `(tactic| walk_at "rc") => `(tactic| first | exact rc_int1 | exact rc_intB | exact rc_abs | exact rc_lenL (sq_of (by assumption)) | exact rc_lenT (st_of (by assumption)) | exact rc_lenL (by assumption) | exact rc_lenT (by assumption))
local macro_rules | `(tactic| walk_at "rv") => `(tactic| first | exact rv_I0 | (refine' rv_I ?_; omega) | (refine' rv_I ?_; first | exact ⟨by omega, by omega⟩ | exact .inl ⟨by omega, by omega⟩ | exact .inr ⟨by omega, by omega⟩) | exact rv_ixL (sq_of (by assumption)) rfl | exact rv_ixL (by assumption) rfl | exact rv_ixT (st_of (by assumption)) rfl | exact rv_ixT (by assumption) rfl | exact rv_eq rfl | exact rv_ne rfl)
local macro_rules | `(tactic| walk_at "ed") => `(tactic| first
  | exact ed_var rfl (by assumption)
  | exact ed_ev (ev_var rfl) (.int _)
  | exact ed_ev (ev_var rfl) (.str _)
  | exact ed_ev ev_c .non
  | exact ed_ev ev_c (.bl _)
  | exact ed_ev ev_c (.int _)
  | exact ed_ev ev_c (.str _)
  | (apply ed_ixT; walk_at "ed"; exact ev_c; rfl; rfl)
  | (apply ed_ixL; walk_at "ed"; exact ev_c; rfl; rfl)
  | (apply ed_tup; walk_at "da"; exact of_decide_eq_true rfl)
  | (apply ed_lst; walk_at "da"; exact of_decide_eq_true rfl))
local macro_rules | `(tactic| walk_at "da") => `(tactic| first
  | exact da_nil
  | (apply da_cons; walk_at "ed"; walk_at "da"))
local macro_rules | `(tactic| walk_at "ev") => `(tactic| first
  | exact ev_c
  | (apply ev_is1; walk_at "ed"; simp)
  | (apply ev_is2; walk_at "ed"; simp; simp)
  | (apply ev_edI; apply ed_ixT; walk_at "ed"; exact ev_c; rfl; rfl)
  | (apply ev_edS; apply ed_ixT; walk_at "ed"; exact ev_c; rfl; rfl)
  | (apply ev_notV; walk_at "ev")
  | (apply ev_andV; walk_at "ev"; (intro _; walk_at "ev"))
  | exact ev_lenL (ed_var rfl (by assumption))
  | (apply ev_edB; apply ed_call; walk_at "da"; apply spFun_D; first | trivial | assumption)
  | exact ev_lenT (ed_var rfl (by assumption))
  | (apply ev_isND; walk_at "ed")
  | (apply ev_notND; walk_at "ed")
  | (apply ev_isN; walk_at "ev")
  | (apply ev_notN; walk_at "ev")
  | exact ev_var rfl
  | (apply ev_op; walk_at "ev"; walk_at "ev"; walk_at "rv")
  | (apply ev_un; walk_at "ev"; exact ru_neg)
  | (apply ev_cb; walk_at "ea"; walk_at "rc"))
local macro_rules | `(tactic| walk_at "ea") => `(tactic| first
  | exact ea_nil
  | (apply ea_cons; walk_at "ev"; walk_at "ea"))
local macro_rules | `(tactic| walk_at "et") => `(tactic| first
  | (apply et_test; walk_at "ev")
  | (apply et_B; walk_at "ev")
  | (apply et_or; walk_at "et"; (intro _; walk_at "et"))
  | (apply et_and; walk_at "et"; (intro _; walk_at "et"))
  | (apply et_not; walk_at "et"))
local macro_rules | `(tactic| walk_at "evr") => `(tactic| (apply ev_is; walk_at "ev"; rfl))
local macro_rules | `(tactic| walk_at "etr") => `(tactic| (first | apply et_B | apply et_test); (apply ev_is; walk_at "ev"; rfl))
local macro_rules | `(tactic| walk_at "evs") => `(tactic| (apply ev_is; walk_at "ev"; simp [isiB, tyN]))
local macro_rules | `(tactic| walk_at "ets") => `(tactic| (apply et_is; walk_at "et"; simp [isiB, tyN]))
local macro_rules | `(tactic| walk_at "etr1") => `(tactic| (apply et_is; walk_at "et"; rfl))
local macro_rules | `(tactic| walk_at "etk") => `(tactic| (apply et_is; walk_at "et"; kernel_rfl))
namespace Rel
open PySem PySem.Spec PyProof.Rows L2 Evl
/-- a draw from 0 to n - 1; the box is another one then -/
def spTake : Sp := fun vs H Q _ => ∃ (p : Addr) (A B C n : Int), vs = [.ref p, .int n] ∧ H p = some (.lst [.int A, .int B, .int C]) ∧ 0 ≤ A ∧ 0 ≤ B ∧ B < 2 ^ 62 ∧ 0 ≤ C ∧ C < 10 ^ 9 ∧ 0 < n ∧ n < 2 ^ 30 ∧
  ∀ (r A' C' : Int) (H' : Hp), 0 ≤ r → r < n → 0 ≤ A' → C ≤ C' → C' ≤ C + 1 → H' p = some (.lst [.int A', .int B, .int C']) → But p H H' → Q (.int r) H'
section
variable {P : Program} {w : World} {K : PySem.W.Frag} {mg : Str → Option Value} {base : Heap}
theorem ok_take {f : Addr} {fd : FuncData} (F : FnP K "_law_take" "_law_take" s_law_take f fd) (T : Txt K mg w) : FnOk P w K mg base CX0 1 f fd ["tin", "below_so"] spTake := by
  refine F.ok sc_law_take (fun vs H Q E h => ?_) (fun cdv A outer s H vs Q E hr h => ?_)
  · obtain ⟨p, A, B, C, n, rfl, _⟩ := h
    rfl
  · obtain ⟨p, A, B, C, n, rfl, hp, hA, hB, hB2, hC, hC2, hn, hn2, k⟩ := h
    have nd := sc_law_take.nd
    have hu := hu_of hr
    refine ⟨_, PSs.nox (pss_cons (ps_if (pt_cmpR op_gt (pe_ix (kx_list (K := K) rfl) (pv 0) pe_int (fun _ _ => rfl)) pe_int (nomark _)) (pss_cons (ps_set (i := 2) nd rfl (Or.inl rfl) (pe_op op_mod (pe_callTy call_int1 rfl T.n_int (by decide +kernel) (pa_cons (pe_ix (kx_list (K := K) rfl) (pv 0) pe_int (fun _ _ => rfl)) pa_nil)) (pv 1)))
  (pss_cons (ps_asg (pe_op op_fdiv (pe_ix (kx_list (K := K) rfl) (pv 0) pe_int (fun _ _ => rfl)) (pv 1)) (pg_sub (pv 0) pe_int set_list))
  (pss_one (ps_ret (pv 2))))) pss_nil)
  (pss_cons (ps_asg (pe_op op_add (pe_ix (kx_list (K := K) rfl) (pv 0) pe_int (fun _ _ => rfl)) pe_int) (pg_sub (pv 0) pe_int set_list))
  (pss_cons (ps_set (i := 3) nd rfl (Or.inl rfl) (pe_op op_mod (pe_callTy call_int1 rfl T.n_int (by decide +kernel) (pa_cons (pe_op op_mul (pe_op op_add (pe_ix (kx_list (K := K) rfl) (pv 0) pe_int (fun _ _ => rfl)) (pe_op op_mul pe_int (pe_ix (kx_list (K := K) rfl) (pv 0) pe_int (fun _ _ => rfl)))) (pe_op op_add pe_int (pe_ix (kx_list (K := K) rfl) (pv 0) pe_int (fun _ _ => rfl)))) pa_nil)) pe_int))
  (pss_cons (ps_set (i := 4) nd rfl (Or.inl rfl) (pe_op op_add (pe_op op_mod (pe_callTy call_int1 rfl T.n_int (by decide +kernel) (pa_cons (pv 3) pa_nil)) pe_int) pe_int))
  (pss_cons (ps_set (i := 5) nd rfl (Or.inl rfl) (pe_op op_mod (pe_callTy call_int1 rfl T.n_int (by decide +kernel) (pa_cons (pe_op op_mul (pe_op op_add (pe_op op_add (pv 3) (pe_ix (kx_list (K := K) rfl) (pv 0) pe_int (fun _ _ => rfl))) (pe_op op_fdiv (pe_ix (kx_list (K := K) rfl) (pv 0) pe_int (fun _ _ => rfl)) pe_int)) (pv 4)) pa_nil)) pe_int))
  (pss_one (ps_ret (pe_op op_mod (pe_callTy call_int1 rfl T.n_int (by decide +kernel) (pa_cons (pe_op op_fdiv (pe_op op_mod (pe_callTy call_int1 rfl T.n_int (by decide +kernel) (pa_cons (pe_op op_add (pe_op op_mul (pv 5) pe_int) (pv 3)) pa_nil)) pe_int) pe_int) pa_nil)) (pv 1))))))))), ?_⟩
    refine q_when (b := decide (0 < A)) (et_test ?_) ?_ ?_
    · walk_at "ev"
    · intro hb H1 e1
      have hA1 : 0 < A := of_decide_eq_true hb
      have hp1 := e1 p _ hp
      apply q_asg
      · walk_at "ev"
      · intro H2 e2
        have hp2 := e2 p _ hp1
        apply q_setL (j := 0) hp2
        · walk_at "ev"
        · exact ev_var rfl
        · exact ev_c
        · exact Nat.zero_lt_succ _
        · intro H3 e3
          apply s_ret
          · exact ev_var rfl
          · intro H4 e4
            refine k _ (A / n) C H4 ?_ ?_ ?_ (Int.le_refl _) (by omega) (e4 _ _ upd_same) ?_
            · exact Int.emod_nonneg _ (by omega)
            · exact Int.emod_lt_of_pos _ hn
            · exact Int.ediv_nonneg hA (by omega)
            · exact (((But.of_ex e1).ex e2).ex e3).trans (But.upd.ex e4)
    · intro hb H1 e1
      have hp1 := e1 p _ hp
      apply q_setL (j := 2) hp1
      · walk_at "ev"
      · exact ev_var rfl
      · exact ev_c
      · exact Nat.lt_succ_self _
      · intro H2 e2
        have hp2 : (upd H2 p (.lst [.int A, .int B, .int (C + 1)])) p = some (.lst [.int A, .int B, .int (C + 1)]) := upd_same
        have b2 : But p H (upd H2 p (.lst [.int A, .int B, .int (C + 1)])) := ((But.of_ex e1).ex e2).trans But.upd
        show (tSeq _ _) _ _ (upd H2 p (.lst [.int A, .int B, .int (C + 1)]))
        generalize upd H2 p (.lst [.int A, .int B, .int (C + 1)]) = H3 at hp2 b2 ⊢
        apply q_asg
        · walk_at "ev"
        · intro H4 e4
          have hp4 := e4 p _ hp2
          apply q_asg
          · walk_at "ev"
          · intro H5 e5
            have hp5 := e5 p _ hp4
            apply q_asg
            · walk_at "ev"
            · intro H6 e6
              apply s_ret
              · walk_at "ev"
              · intro H7 e7
                refine k _ A (C + 1) H7 (Int.emod_nonneg _ (by omega)) (Int.emod_lt_of_pos _ hn) hA (by omega) (Int.le_refl _) (e7 _ _ (e6 _ _ hp5)) ((((b2.ex e4).ex e5).ex e6).ex e7)
end
end Rel
end
section
open PySem PySem.Spec PyProof.Rows L2 Evl Rel
local macro_rules | `(tactic| walk_at "hp") => `(tactic| first | assumption | exact upd_same)
local macro_rules | `(tactic| walk_at "mem") => `(tactic| first | exact List.Mem.head _ | exact List.Mem.tail _ (List.Mem.head _) | exact List.Mem.tail _ (List.Mem.tail _ (List.Mem.head _)) | exact List.Mem.tail _ (List.Mem.tail _ (List.Mem.tail _ (List.Mem.head _))))
local macro_rules | `(tactic| walk_at "rc") => `(tactic| first | exact rc_int1 | exact rc_intB | exact rc_abs | exact rc_lenL (sq_of (by assumption)) | exact rc_lenT (st_of (by assumption)) | exact rc_lenL (by assumption) | exact rc_lenT (by assumption))
local macro_rules | `(tactic| walk_at "rv") => `(tactic| first | exact rv_I0 | (refine' rv_I ?_; omega) | (refine' rv_I ?_; first | exact ⟨by omega, by omega⟩ | exact .inl ⟨by omega, by omega⟩ | exact .inr ⟨by omega, by omega⟩) | exact rv_ixL (sq_of (by assumption)) rfl | exact rv_ixL (by assumption) rfl | exact rv_ixT (st_of (by assumption)) rfl | exact rv_ixT (by assumption) rfl | exact rv_eq rfl | exact rv_ne rfl)
local macro_rules | `(tactic| walk_at "ed") => `(tactic| first
  | exact ed_var rfl (by assumption)
  | exact ed_ev (ev_var rfl) (.int _)
  | exact ed_ev (ev_var rfl) (.str _)
  | exact ed_ev ev_c .non
  | exact ed_ev ev_c (.bl _)
  | exact ed_ev ev_c (.int _)
  | exact ed_ev ev_c (.str _)
  | (apply ed_ixT; walk_at "ed"; exact ev_c; rfl; rfl)
  | (apply ed_ixL; walk_at "ed"; exact ev_c; rfl; rfl)
  | (apply ed_tup; walk_at "da"; exact of_decide_eq_true rfl)
  | (apply ed_lst; walk_at "da"; exact of_decide_eq_true rfl))
local macro_rules | `(tactic| walk_at "da") => `(tactic| first
  | exact da_nil
  | (apply da_cons; walk_at "ed"; walk_at "da"))
local macro_rules | `(tactic| walk_at "ev") => `(tactic| first
  | exact ev_c
  | (apply ev_is1; walk_at "ed"; simp)
  | (apply ev_is2; walk_at "ed"; simp; simp)
  | (apply ev_edI; apply ed_ixT; walk_at "ed"; exact ev_c; rfl; rfl)
  | (apply ev_edS; apply ed_ixT; walk_at "ed"; exact ev_c; rfl; rfl)
  | (apply ev_notV; walk_at "ev")
  | (apply ev_andV; walk_at "ev"; (intro _; walk_at "ev"))
  | exact ev_lenL (ed_var rfl (by assumption))
  | (apply ev_edB; apply ed_call; walk_at "da"; apply spFun_D; first | trivial | assumption)
  | exact ev_lenT (ed_var rfl (by assumption))
  | (apply ev_isND; walk_at "ed")
  | (apply ev_notND; walk_at "ed")
  | (apply ev_isN; walk_at "ev")
  | (apply ev_notN; walk_at "ev")
  | exact ev_var rfl
  | (apply ev_op; walk_at "ev"; walk_at "ev"; walk_at "rv")
  | (apply ev_un; walk_at "ev"; exact ru_neg)
  | (apply ev_cb; walk_at "ea"; walk_at "rc"))
local macro_rules | `(tactic| walk_at "ea") => `(tactic| first
  | exact ea_nil
  | (apply ea_cons; walk_at "ev"; walk_at "ea"))
local macro_rules | `(tactic| walk_at "et") => `(tactic| first
  | (apply et_test; walk_at "ev")
  | (apply et_B; walk_at "ev")
  | (apply et_or; walk_at "et"; (intro _; walk_at "et"))
  | (apply et_and; walk_at "et"; (intro _; walk_at "et"))
  | (apply et_not; walk_at "et"))
local macro_rules | `(tactic| walk_at "evr") => `(tactic| (apply ev_is; walk_at "ev"; rfl))
local macro_rules | `(tactic| walk_at "etr") => `(tactic| (first | apply et_B | apply et_test); (apply ev_is; walk_at "ev"; rfl))
local macro_rules | `(tactic| walk_at "evs") => `(tactic| (apply ev_is; walk_at "ev"; simp [isiB, tyN]))
local macro_rules | `(tactic| walk_at "ets") => `(tactic| (apply et_is; walk_at "et"; simp [isiB, tyN]))
local macro_rules | `(tactic| walk_at "etr1") => `(tactic| (apply et_is; walk_at "et"; rfl))
local macro_rules | `(tactic| walk_at "etk") => `(tactic| (apply et_is; walk_at "et"; kernel_rfl))
namespace Rel
open PySem PySem.Spec PyProof.Rows L2 Evl
/-- the box of draws of a list of one number -/
def spBox : Sp := fun vs H Q _ => ∃ (a : Addr) (z : Int), vs = [.ref a, .int 0] ∧ H a = some (.lst [.int z]) ∧
  ∀ (p : Addr) (A B : Int) (H' : Hp), H p = none → 0 ≤ A → 0 ≤ B → B < 2 ^ 62 → Ex H H' → H' p = some (.lst [.int A, .int B, .int 0]) → Q (.ref p) H'
/-- the cells of a script, all in one -/
def spCells (K : PySem.W.Frag) : Sp := fun vs H Q _ => ∃ (a : Addr) (ns : List Int), vs = [.ref a, .int 1] ∧ SqL K H a (ns.map V.int) ∧ ns.length ≤ 63 ∧
  ∀ (p : Addr) (z : Int) (H' : Hp), H p = none → Ex H H' → H' p = some (.lst [.int z]) → Q (.ref p) H'
section
variable {P : Program} {w : World} {K : PySem.W.Frag} {mg : Str → Option Value} {base : Heap}
theorem ok_box {f : Addr} {fd : FuncData} (F : FnP K "_law_box" "_law_box" s_law_box f fd) (T : Txt K mg w) : FnOk P w K mg base CX0 1 f fd ["script", "k"] spBox := by
  refine F.ok sc_law_box (fun vs H Q E h => ?_) (fun cdv A outer s H vs Q E hr h => ?_)
  · obtain ⟨p, A, rfl, _⟩ := h
    rfl
  · obtain ⟨a, z, rfl, ha, k⟩ := h
    have nd := sc_law_box.nd
    have hu := hu_of hr
    refine ⟨_, PSs.nox (pss_cons (ps_set (i := 2) nd rfl (Or.inl rfl) (pe_ifExp (pt_cmpR op_lt (pv 1) (pe_callB (kc_len (K := K) rfl) rfl T.n_len (by decide +kernel) (pa_cons (pv 0) pa_nil)) (nomark _)) (pe_ix (kx_list (K := K) rfl) (pv 0) (pv 1) (fun _ _ => rfl)) pe_int))
  (pss_one (ps_ret (pe_lst (pa_cons (pe_op op_mul (pe_callB call_abs rfl T.n_abs (by decide +kernel) (pa_cons (pv 2) pa_nil)) (pe_callTy call_int1 rfl T.n_int (by decide +kernel) (pa_cons (pe_cmpR op_ge (pe_callB call_abs rfl T.n_abs (by decide +kernel) (pa_cons (pv 2) pa_nil)) (pe_op op_pow pe_int pe_int) (nomark _)) pa_nil))) (pa_cons (pe_op op_add (pe_op op_add (pe_op op_mod (pe_callTy call_int1 rfl T.n_int (by decide +kernel) (pa_cons (pv 2) pa_nil)) pe_int) (pe_op op_mul pe_int (pv 1))) pe_int) (pa_cons pe_int pa_nil))))))), ?_⟩
    apply q_asg (v := .int z)
    · refine ev_if (b := true) ?_ (fun _ => ?_) (fun z => nomatch z)
      · refine et_is (a := decide ((0 : Int) < (([V.int z].length : Nat) : Int))) ?_ rfl
        walk_at "et"
      · walk_at "ev"
    · intro H1 e1
      refine s_retL (xs := [.int ((if z < 0 then -z else z) * (if decide ((10 : Int) ^ (18 : Int).toNat ≤ (if z < 0 then -z else z)) then 1 else 0)), .int (z % 2305843009213693951 + 40961 * 0 + 3673077), .int 0])
        (el_lst (ea_cons ?_ (ea_cons ?_ (ea_cons ?_ ea_nil))) (by show 3 ≤ 100000; decide)) ?_
      · apply ev_op (x := .int (if z < 0 then -z else z)) (y := .int (if decide ((10 : Int) ^ (18 : Int).toNat ≤ (if z < 0 then -z else z)) then 1 else 0))
        · walk_at "ev"
        · walk_at "ev"
        · have h01 := ite01 (decide ((10 : Int) ^ (18 : Int).toNat ≤ (if z < 0 then -z else z)))
          exact rv_I (.inr ⟨by omega, by omega⟩)
      · walk_at "ev"
      · walk_at "ev"
      · intro p H2 hp e2 h2
        refine k p _ _ H2 (fresh_back e1 hp) ?_ ?_ ?_ (e1.trans e2) h2
        · refine Int.mul_nonneg ?_ ?_
          · split <;> omega
          · exact (ite01 _).1
        · have := Int.emod_nonneg z (show (2305843009213693951 : Int) ≠ 0 by decide)
          omega
        · have := Int.emod_lt_of_pos z (show (0 : Int) < 2305843009213693951 by decide)
          omega
theorem ok_cells {f : Addr} {fd : FuncData} (F : FnP K "_law_cells" "_law_cells" s_law_cells f fd) (T : Txt K mg w) : FnOk P w K mg base CX0 1 f fd ["script", "most_so"] (spCells K) := by
  refine F.ok sc_law_cells (fun vs H Q E h => ?_) (fun cdv A outer s H vs Q E hr h => ?_)
  · obtain ⟨p, A, rfl, _⟩ := h
    rfl
  · obtain ⟨a, ns, rfl, ha, hn, k⟩ := h
    have nd := sc_law_cells.nd
    have hu := hu_of hr
    refine ⟨_, PSs.nox (pss_cons (ps_set (i := 2) nd rfl (Or.inl rfl) (pe_orT (pe_callTy (kc_list (K := K) rfl) rfl T.n_list (by decide +kernel) (pa_cons (pe_slice (ks_list (K := K) rfl) (pv 0) po_none (po_some (pv 1))) pa_nil)) (pe_one (pe_lst (pa_cons pe_int pa_nil)))))
  (pss_cons (ps_for PassesOwn.never rfl (pi_enum (by rfl) T.n_enumerate (pa_cons (pe_slice (ks_list (K := K) rfl) (pv 0) (po_some (pv 1)) (po_some pe_int)) pa_nil)) (pg_tup rfl (pgs_cons (pg_name (i := 3) nd rfl (Or.inl rfl)) (pgs_cons (pg_name (i := 4) nd rfl (Or.inl rfl)) pgs_nil))) (pss_cons (ps_set (i := 5) nd rfl (Or.inl rfl) (pe_op op_mod (pe_callTy call_int1 rfl T.n_int (by decide +kernel) (pa_cons (pv 3) pa_nil)) (pv 1)))
  (pss_one (ps_asg (pe_op op_add (pe_ix (kx_list (K := K) rfl) (pv 2) (pv 5) (fun _ _ => rfl)) (pe_op op_mul (pv 4) (pe_op op_add (pv 3) pe_int))) (pg_sub (pv 2) (pv 5) set_list)))))
  (pss_one (ps_ret (pv 2))))), ?_⟩
    have hs1 : EvL (tCB (rLstOf K) (tCons (tSl (rSlL K) (tVar 0) tNoPart (tPart (tVar 1))) tNil)) (L2.start ["script", "most_so", "cells_so", "k", "bit_so", "at_so"] [V.ref a, V.int 1]) H (cutV (ns.map V.int) none (some 1)) := by
      intro H1 e1 Q q
      refine ⟨_, rfl, _, rfl, 1, rfl, a, ns.map V.int, rfl, ex_l e1 ha, fun p hp => ⟨p, _, rfl, .inl (sq_of upd_same), fun l hl => ?_⟩⟩
      exact q l _ (fresh_back (Ex.new hp) hl) ((Ex.new hp).trans (Ex.new hl)) upd_same
    -- the cells
    have hc : EvL (tOrT K (tCB (rLstOf K) (tCons (tSl (rSlL K) (tVar 0) tNoPart (tPart (tVar 1))) tNil)) (tLst (tCons (tC (V.int 0)) tNil))) (L2.start ["script", "most_so", "cells_so", "k", "bit_so", "at_so"] [V.ref a, V.int 1]) H [.int (ns.headD 0)] := by
      intro H1 e1 Q q
      refine hs1 H1 e1 _ fun p H2 hp e2 h2 => ?_
      cases ns with
      | nil =>
        refine ⟨false, .inl ⟨_, sq_of h2, rfl⟩, iteF ?_⟩
        exact (el_lst (ea_cons ev_c ea_nil) (by show 1 ≤ 100000; decide)) H2 (e1.trans e2) _ fun p' H3 hp' e3 h3 => q p' H3 (fresh_back e2 hp') (e2.trans e3) h3
      | cons z zs =>
        refine ⟨true, .inl ⟨_, sq_of h2, ?_⟩, iteT ?_⟩
        · rfl
        · exact q p H2 hp e2 h2
    apply q_asgL hc
    intro p H1 hp e1 h1
    obtain ⟨ms, hms, hml⟩ := cutV_ints ns (some 1) (some 63)
    -- for k, bit_so in enumerate(script[most_so:63])
    refine ⟨_, rfl, _, rfl, 1, rfl, 63, rfl, a, ns.map V.int, rfl, ex_l e1 ha, fun l hl => ?_⟩
    have hpl : p ≠ l := ne_of_none h1 hl
    rw [hms]
    refine ⟨l, ms.map V.int, rfl, sq_of upd_same, for_it (walk_enum (xs := ms.map V.int)) (fun i σ H' => ∃ (z : Int) (v3 v4 v5 : Option V), σ = [some (.ref a), some (.int 1), some (.ref p), v3, v4, v5] ∧ H' p = some (.lst [.int z]) ∧ H' l = some (.lst (ms.map V.int)) ∧ Ex H H')
      ⟨_, none, none, none, rfl, by rw [upd_ne hpl]; exact h1, upd_same, e1.trans (Ex.new hl)⟩ (fun _ _ _ _ ⟨_, _, _, _, _, _, hq, _⟩ => sq_of hq) ?_ ?_⟩
    · rintro i x σ H2 H3 hi ⟨z, v3, v4, v5, rfl, hz, hq, he⟩ ⟨T, x0, y0, rfl, hT, rfl, hx, hy⟩
      cases hx
      obtain ⟨b, rfl⟩ := map_int_get hy
      rw [List.length_map] at hi
      refine g_pair upd_same ?_
      have hz2 : (upd H2 T (.tup [.int (i : Nat), .int b])) p = some (.lst [.int z]) := Ex.new hT _ _ hz
      have hq2 : (upd H2 T (.tup [.int (i : Nat), .int b])) l = some (.lst (ms.map V.int)) := Ex.new hT _ _ hq
      have he2 : Ex H (upd H2 T (.tup [.int (i : Nat), .int b])) := he.trans (Ex.new hT)
      generalize upd H2 T (.tup [.int (i : Nat), .int b]) = H4 at hz2 hq2 he2 ⊢
      apply q_asg
      · walk_at "ev"
      · intro H5 e5
        have e0 : ((i : Nat) : Int) % 1 = ((0 : Nat) : Int) := by omega
        rw [e0]
        have hz5 := e5 _ _ hz2
        refine s_setL (j := 0) (v := .int (z + b * ((i : Int) + 2))) hz5 ?_ (ev_var rfl) (ev_var rfl) (Nat.zero_lt_succ _) ?_
        · apply ev_op (x := .int z) (y := .int (b * ((i : Int) + 2)))
          · apply ev_op
            · exact ev_var rfl
            · exact ev_var rfl
            · exact rv_ixL (sq_of hz5) rfl
          · apply ev_op
            · exact ev_var rfl
            · walk_at "ev"
            · refine rv_I (.inr ⟨by omega, by omega⟩)
          · exact rv_I0
        · intro H6 e6
          refine ⟨z + b * ((i : Int) + 2), some (.int (i : Nat)), some (.int b), some (.int ((0 : Nat) : Int)), rfl, upd_same, ?_, Ex.mut ((he2.trans e5).trans e6) hp⟩
          rw [upd_ne (Ne.symm hpl)]
          exact e6 _ _ (e5 _ _ hq2)
    · rintro σ H2 ⟨z, v3, v4, v5, rfl, hz, _, he⟩
      exact s_ret (ev_var rfl) fun H3 e3 => k p z H3 hp (he.trans e3) (e3 _ _ hz)
end
end Rel
end
section
open PySem PySem.Spec PyProof.Rows L2 Evl Rel
local macro_rules | `(tactic| walk_at "hp") => `(tactic| first | assumption | exact upd_same)
local macro_rules | `(tactic| walk_at "mem") => `(tactic| first | exact List.Mem.head _ | exact List.Mem.tail _ (List.Mem.head _) | exact List.Mem.tail _ (List.Mem.tail _ (List.Mem.head _)) | exact List.Mem.tail _ (List.Mem.tail _ (List.Mem.tail _ (List.Mem.head _))))
local macro_rules | `(tactic| walk_at "rc") => `(tactic| first | exact rc_int1 | exact rc_intB | exact rc_abs | exact rc_lenL (sq_of (by assumption)) | exact rc_lenT (st_of (by assumption)) | exact rc_lenL (by assumption) | exact rc_lenT (by assumption))
local macro_rules | `(tactic| walk_at "rv") => `(tactic| first | exact rv_I0 | (refine' rv_I ?_; omega) | (refine' rv_I ?_; first | exact ⟨by omega, by omega⟩ | exact .inl ⟨by omega, by omega⟩ | exact .inr ⟨by omega, by omega⟩) | exact rv_ixL (sq_of (by assumption)) rfl | exact rv_ixL (by assumption) rfl | exact rv_ixT (st_of (by assumption)) rfl | exact rv_ixT (by assumption) rfl | exact rv_eq rfl | exact rv_ne rfl)
local macro_rules | `(tactic| walk_at "ed") => `(tactic| first
  | exact ed_var rfl (by assumption)
  | exact ed_ev (ev_var rfl) (.int _)
  | exact ed_ev (ev_var rfl) (.str _)
  | exact ed_ev ev_c .non
  | exact ed_ev ev_c (.bl _)
  | exact ed_ev ev_c (.int _)
  | exact ed_ev ev_c (.str _)
  | (apply ed_ixT; walk_at "ed"; exact ev_c; rfl; rfl)
  | (apply ed_ixL; walk_at "ed"; exact ev_c; rfl; rfl)
  | (apply ed_tup; walk_at "da"; exact of_decide_eq_true rfl)
  | (apply ed_lst; walk_at "da"; exact of_decide_eq_true rfl))
local macro_rules | `(tactic| walk_at "da") => `(tactic| first
  | exact da_nil
  | (apply da_cons; walk_at "ed"; walk_at "da"))
local macro_rules | `(tactic| walk_at "ev") => `(tactic| first
  | exact ev_c
  | (apply ev_is1; walk_at "ed"; simp)
  | (apply ev_is2; walk_at "ed"; simp; simp)
  | (apply ev_edI; apply ed_ixT; walk_at "ed"; exact ev_c; rfl; rfl)
  | (apply ev_edS; apply ed_ixT; walk_at "ed"; exact ev_c; rfl; rfl)
  | (apply ev_notV; walk_at "ev")
  | (apply ev_andV; walk_at "ev"; (intro _; walk_at "ev"))
  | exact ev_lenL (ed_var rfl (by assumption))
  | (apply ev_edB; apply ed_call; walk_at "da"; apply spFun_D; first | trivial | assumption)
  | exact ev_lenT (ed_var rfl (by assumption))
  | (apply ev_isND; walk_at "ed")
  | (apply ev_notND; walk_at "ed")
  | (apply ev_isN; walk_at "ev")
  | (apply ev_notN; walk_at "ev")
  | exact ev_var rfl
  | (apply ev_op; walk_at "ev"; walk_at "ev"; walk_at "rv")
  | (apply ev_un; walk_at "ev"; exact ru_neg)
  | (apply ev_cb; walk_at "ea"; walk_at "rc"))
local macro_rules | `(tactic| walk_at "ea") => `(tactic| first
  | exact ea_nil
  | (apply ea_cons; walk_at "ev"; walk_at "ea"))
local macro_rules | `(tactic| walk_at "et") => `(tactic| first
  | (apply et_test; walk_at "ev")
  | (apply et_B; walk_at "ev")
  | (apply et_or; walk_at "et"; (intro _; walk_at "et"))
  | (apply et_and; walk_at "et"; (intro _; walk_at "et"))
  | (apply et_not; walk_at "et"))
local macro_rules | `(tactic| walk_at "evr") => `(tactic| (apply ev_is; walk_at "ev"; rfl))
local macro_rules | `(tactic| walk_at "etr") => `(tactic| (first | apply et_B | apply et_test); (apply ev_is; walk_at "ev"; rfl))
local macro_rules | `(tactic| walk_at "evs") => `(tactic| (apply ev_is; walk_at "ev"; simp [isiB, tyN]))
local macro_rules | `(tactic| walk_at "ets") => `(tactic| (apply et_is; walk_at "et"; simp [isiB, tyN]))
local macro_rules | `(tactic| walk_at "etr1") => `(tactic| (apply et_is; walk_at "et"; rfl))
local macro_rules | `(tactic| walk_at "etk") => `(tactic| (apply et_is; walk_at "et"; kernel_rfl))
namespace Rel
open PySem PySem.Spec PyProof.Rows L2 Evl
/-- two values of the same data -/
def spSame (n : Nat) : Sp := fun vs H Q _ => ∃ (v u : V) (d : PyData), vs = [v, u] ∧ Da N0 H v d ∧ Da N0 H u d ∧ okD n d ∧ ∀ H', Ex H H' → Q (.bl true) H'
theorem spSame_D {n : Nat} {d : PyData} (hc : okD n d) : SpD (spSame n) [d, d] (.bool true) := by
  intro N vs H hN hd Q E q
  cases hd with
  | cons h1 h2 =>
    cases h2 with
    | cons h3 h4 =>
      cases h4
      exact ⟨_, _, d, rfl, h1.zero, h3.zero, hc, fun H' e => q _ _ e (.bl true)⟩
section
variable {P : Program} {w : World} {K : PySem.W.Frag} {mg : Str → Option Value} {base : Heap}
theorem ok_is_number {f : Addr} {fd : FuncData} (F : FnP K "is_number" "is_number" sis_number f fd) (T : Txt K mg w) : FnOk P w K mg base CX0 1 f fd ["thing"] (spFun (fun d => .bool (isIntD d)) fun _ => True) := by
  refine F.ok scis_number (fun vs H Q E h => ?_) (fun cdv A outer s H vs Q E hr h => ?_)
  · obtain ⟨_, _, _, rfl, _⟩ := h
    rfl
  · obtain ⟨N, v, d, rfl, hN, hd, _, k⟩ := h
    have nd := scis_number.nd
    refine ⟨_, PSs.nox (pss_one (ps_ret (pe_and (pe_callB (kc_isi (K := K) rfl) rfl T.n_isinstance (by decide +kernel) (pa_cons (pv 0) (pa_cons (pe_bltn (v := .ty "int") rfl T.n_int (by decide +kernel) rfl) pa_nil))) (pe_one (pe_not (pe_callB (kc_isi (K := K) rfl) rfl T.n_isinstance (by decide +kernel) (pa_cons (pv 0) (pa_cons (pe_bltn (v := .ty "bool") rfl T.n_bool (by decide +kernel) rfl) pa_nil)))))))), ?_⟩
    have hz := hd.zero
    refine s_ret (v := .bl (isIntD d)) ?_ fun H1 e1 => k _ _ e1 (.bl _)
    rw [← isInt_eq d hd.ty6]
    apply ev_andV
    · walk_at "ev"
    · intro _
      walk_at "ev"
theorem ok_none {x : Str} {ps : List Str} {f : Addr} {fd : FuncData} {sp : Sp} {CX : CXT} (h : ∀ vs H Q E, ¬ sp vs H Q E) : FnOk P w K mg base CX 0 f fd ps sp :=
  ⟨fun vs H Q E q => (h vs H Q E q).elim, fun A outer s H args us vs Q E _ _ _ _ q => (h vs H Q E q).elim⟩
theorem ok_same (n : Nat) {f : Addr} {fd : FuncData} (F : FnP K "_law_same" "_law_same" s_law_same f fd) (g : mg "_law_same" = some (.ref f)) (T : Txt K mg w) : FnOk P w K mg base CX0 n f fd ["got", "due"] (spSame n) := by
  induction n with
  | zero => exact ok_none (x := "") fun vs H Q E ⟨_, _, _, _, _, _, h, _⟩ => h
  | succ n ih =>
    have F_law_same : Fx P w K mg base CX0 "_law_same" ["got", "due"] n (spSame n) := ⟨f, fd, ih, g, F.kp, F.bindsN fun _ _ _ _ _ _ us hl => match us, hl with | [_, _], _ => rfl⟩
    refine F.ok sc_law_same (fun vs H Q E h => ?_) (fun cdv A outer s H vs Q E hr h => ?_)
    · obtain ⟨_, _, _, rfl, _⟩ := h
      rfl
    · obtain ⟨v, u, d, rfl, hv, hu, hn, k⟩ := h
      have nd := sc_law_same.nd
      refine ⟨_, PSs.nox (pss_cons (ps_if (pt_val (pe_callB (kc_isiT (K := K) rfl) rfl T.n_isinstance (by decide +kernel) (pa_cons (pv 1) (pa_cons (pe_tup (pa_cons (pe_bltn (v := .ty "list") rfl T.n_list (by decide +kernel) rfl) (pa_cons (pe_bltn (v := .ty "tuple") rfl T.n_tuple (by decide +kernel) rfl) pa_nil))) pa_nil)))) (pss_cons (ps_if (PW.pt (pw_or (pt_cmpR op_ne (pe_callB (kc_isi (K := K) rfl) rfl T.n_isinstance (by decide +kernel) (pa_cons (pv 0) (pa_cons (pe_bltn (v := .ty "list") rfl T.n_list (by decide +kernel) rfl) pa_nil))) (pe_callB (kc_isi (K := K) rfl) rfl T.n_isinstance (by decide +kernel) (pa_cons (pv 1) (pa_cons (pe_bltn (v := .ty "list") rfl T.n_list (by decide +kernel) rfl) pa_nil))) (nomark _)) (pw_or1 (pt_cmpR op_ne (pe_callB (kc_isi (K := K) rfl) rfl T.n_isinstance (by decide +kernel) (pa_cons (pv 0) (pa_cons (pe_bltn (v := .ty "tuple") rfl T.n_tuple (by decide +kernel) rfl) pa_nil))) (pe_callB (kc_isi (K := K) rfl) rfl T.n_isinstance (by decide +kernel) (pa_cons (pv 1) (pa_cons (pe_bltn (v := .ty "tuple") rfl T.n_tuple (by decide +kernel) rfl) pa_nil))) (nomark _))))) (pss_one (ps_ret pe_bl)) pss_nil)
  (pss_one (ps_ret (pe_and (pe_cmpR op_eq (pe_callB (kc_len (K := K) rfl) rfl T.n_len (by decide +kernel) (pa_cons (pv 0) pa_nil)) (pe_callB (kc_len (K := K) rfl) rfl T.n_len (by decide +kernel) (pa_cons (pv 1) pa_nil)) (nomark _)) (pe_one (pe_callB (kc_all (K := K) rfl rfl) rfl T.n_all (by decide +kernel) (pa_cons (pe_lc (g := gTup K 2 (gCons (gName 2) (gCons (gName 3) gNil))) (own := [("mine", 2), ("its", 3)]) rfl nd (RZ.pi_zipA (by rfl) T.n_zip (pa_cons (pv 0) (pa_cons (pv 1) pa_nil))) (blkOk_by (N := n_law_same) (sc := defScope s_law_same) (by decide +kernel)) (fun _ _ _ _ _ => (pg_tup rfl (pgs_cons (pg_name (i := 2) nd rfl (Or.inl rfl) (.inr rfl)) (pgs_cons (pg_name (i := 3) nd rfl (Or.inl rfl) (.inr rfl)) pgs_nil)))) (fun _ _ _ _ _ => pts_nil) (fun _ _ _ _ _ => (pe_call F_law_same.ok (hr.mono (by first | decide | omega)) rfl F_law_same.g F_law_same.kp F_law_same.b .nil pass0 (pa_cons (pv 2) (pa_cons (pv 3) pa_nil))))) pa_nil))))))) pss_nil)
  (pss_cons (ps_if (pt_cmp (pc_isN (pv 1)) rfl) (pss_one (ps_ret (pe_cmp (pc_isN (pv 0)) rfl))) pss_nil)
  (pss_cons (ps_if (pt_val (pe_callB (kc_isiT (K := K) rfl) rfl T.n_isinstance (by decide +kernel) (pa_cons (pv 1) (pa_cons (pe_tup (pa_cons (pe_bltn (v := .ty "bool") rfl T.n_bool (by decide +kernel) rfl) (pa_cons (pe_bltn (v := .ty "str") rfl T.n_str (by decide +kernel) rfl) pa_nil))) pa_nil)))) (pss_one (ps_ret (pe_and (pe_cmpR op_eq (pe_callB (kc_isi (K := K) rfl) rfl T.n_isinstance (by decide +kernel) (pa_cons (pv 0) (pa_cons (pe_bltn (v := .ty "bool") rfl T.n_bool (by decide +kernel) rfl) pa_nil))) (pe_callB (kc_isi (K := K) rfl) rfl T.n_isinstance (by decide +kernel) (pa_cons (pv 1) (pa_cons (pe_bltn (v := .ty "bool") rfl T.n_bool (by decide +kernel) rfl) pa_nil))) (nomark _)) (pe_and (pe_cmpR op_eq (pe_callB (kc_isi (K := K) rfl) rfl T.n_isinstance (by decide +kernel) (pa_cons (pv 0) (pa_cons (pe_bltn (v := .ty "str") rfl T.n_str (by decide +kernel) rfl) pa_nil))) (pe_callB (kc_isi (K := K) rfl) rfl T.n_isinstance (by decide +kernel) (pa_cons (pv 1) (pa_cons (pe_bltn (v := .ty "str") rfl T.n_str (by decide +kernel) rfl) pa_nil))) (nomark _)) (pe_one (pe_cmpR op_eq (pv 0) (pv 1) (nomark _))))))) pss_nil)
  (pss_one (ps_ret (pe_and (pe_callB (kc_isi (K := K) rfl) rfl T.n_isinstance (by decide +kernel) (pa_cons (pv 0) (pa_cons (pe_bltn (v := .ty "int") rfl T.n_int (by decide +kernel) rfl) pa_nil))) (pe_and (pe_not (pe_callB (kc_isi (K := K) rfl) rfl T.n_isinstance (by decide +kernel) (pa_cons (pv 0) (pa_cons (pe_bltn (v := .ty "bool") rfl T.n_bool (by decide +kernel) rfl) pa_nil)))) (pe_one (pe_cmpR op_eq (pv 0) (pv 1) (nomark _)))))))))), ?_⟩
      cases d with
      | none =>
        refine q_when (b := false) ?_ (fun z => nomatch z) fun _ H1 e1 => ?_
        · walk_at "etr"
        · refine q_when (b := true) ?_ (fun _ H2 e2 => ?_) (fun z => nomatch z)
          · have hu1 := hu.ex e1
            walk_at "etr"
          · have hv2 := hv.ex (e1.trans e2)
            refine s_ret (v := .bl true) (by walk_at "evr") fun H3 e3 => k _ ((e1.trans e2).trans e3)
      | bool b =>
        have hv0 := hv.bl_inv
        have hu0 := hu.bl_inv
        subst hv0 hu0
        refine q_when (b := false) (by walk_at "etr") (fun z => nomatch z) fun _ H1 e1 => ?_
        have hu1 := hu.ex e1
        refine q_when (b := false) (by walk_at "etr") (fun z => nomatch z) fun _ H2 e2 => ?_
        have hu2 := hu1.ex e2
        refine q_when (b := true) (by walk_at "etr") (fun _ H3 e3 => ?_) (fun z => nomatch z)
        have hu3 := hu2.ex e3
        exact s_ret (v := .bl true) (by walk_at "evs") fun H4 e4 => k _ (((e1.trans e2).trans e3).trans e4)
      | str b =>
        have hv0 := hv.str_inv
        have hu0 := hu.str_inv
        subst hv0 hu0
        refine q_when (b := false) (by walk_at "etr") (fun z => nomatch z) fun _ H1 e1 => ?_
        have hu1 := hu.ex e1
        refine q_when (b := false) (by walk_at "etr") (fun z => nomatch z) fun _ H2 e2 => ?_
        have hu2 := hu1.ex e2
        refine q_when (b := true) (by walk_at "etr") (fun _ H3 e3 => ?_) (fun z => nomatch z)
        have hu3 := hu2.ex e3
        exact s_ret (v := .bl true) (by walk_at "evs") fun H4 e4 => k _ (((e1.trans e2).trans e3).trans e4)
      | int b =>
        have hv0 := hv.int_inv
        have hu0 := hu.int_inv
        subst hv0 hu0
        refine q_when (b := false) (by walk_at "etr") (fun z => nomatch z) fun _ H1 e1 => ?_
        have hu1 := hu.ex e1
        refine q_when (b := false) (by walk_at "etr") (fun z => nomatch z) fun _ H2 e2 => ?_
        have hu2 := hu1.ex e2
        refine q_when (b := false) (by walk_at "etr") (fun z => nomatch z) (fun _ H3 e3 => ?_)
        have hu3 := hu2.ex e3
        exact s_ret (v := .bl true) (by walk_at "evs") fun H4 e4 => k _ (((e1.trans e2).trans e3).trans e4)
      | list ds =>
        obtain ⟨hz, hm⟩ := hn
        refine q_when (b := true) (by walk_at "etr") (fun _ H1 e1 => ?_) (fun z => nomatch z)
        have hu1 := hu.ex e1
        have hv1 := hv.ex e1
        refine q_when (b := false) (by walk_at "ets") (fun z => nomatch z) fun _ H2 e2 => ?_
        have hu2 := hu1.ex e2
        have hv2 := hv1.ex e2
        refine s_ret (v := .bl true) ?_ fun H4 e4 => k _ ((e1.trans e2).trans e4)
        refine ev_is (ev_andV (a := decide (V.int (ds.length : Int) = V.int (ds.length : Int))) (b := ((List.range ds.length).map fun _ => true).all id) (by walk_at "ev") fun _ => ev_all ?_) ?_
        · have hL : ((List.range ds.length).map fun _ => true).map PyData.bool = givenD ds.length (fun _ => true) fun _ => PyData.bool true := by
            rw [givenD_all, List.map_map]
            rfl
          rw [hL]
          refine ed_lcZL (da_cons (ed_var rfl hv2) (da_cons (ed_var rfl hu2) da_nil)) rfl (by omega) (fun _ _ => rfl) _ _ (fun i x y dx dy Hb eb hx hy h1 h2 => ?_) (fun i x y dx dy Hb eb hx hy h1 h2 _ => ?_)
          · exact fun H1 _ Q q => q H1 (Ex.refl H1)
          · rw [h1] at h2
            cases h2
            exact ed_call (da_cons (ed_var rfl hx) (da_cons (ed_var rfl hy) da_nil)) (spSame_D (hm _ (List.mem_of_getElem? h1)))
        · simp
      | tuple ds =>
        obtain ⟨hz, hm⟩ := hn
        refine q_when (b := true) (by walk_at "etr") (fun _ H1 e1 => ?_) (fun z => nomatch z)
        have hu1 := hu.ex e1
        have hv1 := hv.ex e1
        refine q_when (b := false) (by walk_at "ets") (fun z => nomatch z) fun _ H2 e2 => ?_
        have hu2 := hu1.ex e2
        have hv2 := hv1.ex e2
        refine s_ret (v := .bl true) ?_ fun H4 e4 => k _ ((e1.trans e2).trans e4)
        refine ev_is (ev_andV (a := decide (V.int (ds.length : Int) = V.int (ds.length : Int))) (b := ((List.range ds.length).map fun _ => true).all id) (by walk_at "ev") fun _ => ev_all ?_) ?_
        · have hL : ((List.range ds.length).map fun _ => true).map PyData.bool = givenD ds.length (fun _ => true) fun _ => PyData.bool true := by
            rw [givenD_all, List.map_map]
            rfl
          rw [hL]
          refine ed_lcZT (da_cons (ed_var rfl hv2) (da_cons (ed_var rfl hu2) da_nil)) rfl (by omega) (fun _ _ => rfl) _ _ (fun i x y dx dy Hb eb hx hy h1 h2 => ?_) (fun i x y dx dy Hb eb hx hy h1 h2 _ => ?_)
          · exact fun H1 _ Q q => q H1 (Ex.refl H1)
          · rw [h1] at h2
            cases h2
            exact ed_call (da_cons (ed_var rfl hx) (da_cons (ed_var rfl hy) da_nil)) (spSame_D (hm _ (List.mem_of_getElem? h1)))
        · simp
      | dict ds => cases hv
theorem ok_as_tuples (n : Nat) {f : Addr} {fd : FuncData} (F : FnP K "as_tuples" "as_tuples" sas_tuples f fd) (g : mg "as_tuples" = some (.ref f)) (T : Txt K mg w) : FnOk P w K mg base CX0 n f fd ["thing"] (spFun tupD (okD n)) := by
  induction n with
  | zero => exact ok_none (x := "") fun vs H Q E ⟨_, _, _, _, _, _, h, _⟩ => h
  | succ n ih =>
    have Fas_tuples : Fx P w K mg base CX0 "as_tuples" ["thing"] n (spFun tupD (okD n)) := ⟨f, fd, ih, g, F.kp, F.bindsN fun _ _ _ _ _ _ us hl => match us, hl with | [_], _ => rfl⟩
    refine F.ok scas_tuples (fun vs H Q E h => ?_) (fun cdv A outer s H vs Q E hr h => ?_)
    · obtain ⟨_, _, _, rfl, _⟩ := h
      rfl
    · obtain ⟨N, v, d, rfl, hN, hv, hn, k⟩ := h
      have nd := scas_tuples.nd
      refine ⟨_, PSs.nox (pss_one (ps_ret (pe_ifExp (pt_val (pe_callB (kc_isiT (K := K) rfl) rfl T.n_isinstance (by decide +kernel) (pa_cons (pv 0) (pa_cons (pe_tup (pa_cons (pe_bltn (v := .ty "list") rfl T.n_list (by decide +kernel) rfl) (pa_cons (pe_bltn (v := .ty "tuple") rfl T.n_tuple (by decide +kernel) rfl) pa_nil))) pa_nil)))) (pe_callTy (kc_tuple (K := K) rfl) rfl T.n_tuple (by decide +kernel) (pa_cons (pe_lc (own := [("part", 1)]) rfl nd (pi_seq (pv 0)) (blkOk_by (N := nas_tuples) (sc := defScope sas_tuples) (by decide +kernel)) (fun _ _ _ _ _ => (pg_name (i := 1) nd rfl (Or.inl rfl))) (fun _ _ _ _ _ => pts_nil) (fun _ _ _ _ _ => (pe_call Fas_tuples.ok (hr.mono (by first | decide | omega)) rfl Fas_tuples.g Fas_tuples.kp Fas_tuples.b .nil pass0 (pa_cons (pv 1) pa_nil)))) pa_nil)) (pv 0)))), ?_⟩
      have hb := less_da hv
      refine s_retDV (d := tupD d) ?_ hN fun v' H1 e1 hd => k v' H1 e1 hd
      cases d with
      | none =>
        have := hb.non_inv
        subst this
        exact ed_if (b := false) (by walk_at "etr") (fun z => nomatch z) fun _ => ed_var rfl hb
      | bool b => exact ed_if (b := false) (by walk_at "etr") (fun z => nomatch z) fun _ => ed_var rfl hb
      | int b => exact ed_if (b := false) (by walk_at "etr") (fun z => nomatch z) fun _ => ed_var rfl hb
      | str b => exact ed_if (b := false) (by walk_at "etr") (fun z => nomatch z) fun _ => ed_var rfl hb
      | dict ds => cases hb
      | list ds =>
        obtain ⟨hz, hm⟩ := hn
        refine ed_if (b := true) (by walk_at "etr") (fun _ => ?_) (fun z => nomatch z)
        show EvD _ _ _ (.tuple (tupD.tupDs ds))
        rw [tupDs_eq, ← givenD_map]
        refine ed_tupleOf (ed_seqL (ed_lcL (ed_var rfl hb) (by omega) (fun _ => rfl) _ _ (fun i x dx Hb eb hx h1 => et_yes) (fun i x dx Hb eb hx h1 _ => ?_)))
        rw [List.getD_eq_getElem?_getD, h1]
        exact ed_call (da_cons (ed_var rfl hx) da_nil) (spFun_D (hm _ (List.mem_of_getElem? h1)))
      | tuple ds =>
        obtain ⟨hz, hm⟩ := hn
        refine ed_if (b := true) (by walk_at "etr") (fun _ => ?_) (fun z => nomatch z)
        show EvD _ _ _ (.tuple (tupD.tupDs ds))
        rw [tupDs_eq, ← givenD_map]
        refine ed_tupleOf (ed_seqT (ed_lcT (ed_var rfl hb) (by omega) (fun _ => rfl) _ _ (fun i x dx Hb eb hx h1 => et_yes) (fun i x dx Hb eb hx h1 _ => ?_)))
        rw [List.getD_eq_getElem?_getD, h1]
        exact ed_call (da_cons (ed_var rfl hx) da_nil) (spFun_D (hm _ (List.mem_of_getElem? h1)))
/-- a list or tuple of texts, not empty -/
def strsD (zs : List Str) : PyData → Prop := fun d => d = .list (zs.map PyData.str) ∨ d = .tuple (zs.map PyData.str)
theorem ok_are_pieces {f : Addr} {fd : FuncData} (F : FnP K "are_pieces" "are_pieces" sare_pieces f fd) (T : Txt K mg w) : FnOk P w K mg base CX0 1 f fd ["thing"] (spFun (fun _ => .bool true) fun d => ∃ zs : List Str, strsD zs d ∧ zs ≠ [] ∧ zs.length ≤ 30000) := by
  refine F.ok scare_pieces (fun vs H Q E h => ?_) (fun cdv A outer s H vs Q E hr h => ?_)
  · obtain ⟨_, _, _, rfl, _⟩ := h
    rfl
  · obtain ⟨N, v, d, rfl, hN, hv, ⟨zs, hz, hne, hlen⟩, k⟩ := h
    have nd := scare_pieces.nd
    have hd := hv.zero
    refine ⟨_, PSs.nox (pss_one (ps_ret (pe_and (pe_callB (kc_isiT (K := K) rfl) rfl T.n_isinstance (by decide +kernel) (pa_cons (pv 0) (pa_cons (pe_tup (pa_cons (pe_bltn (v := .ty "list") rfl T.n_list (by decide +kernel) rfl) (pa_cons (pe_bltn (v := .ty "tuple") rfl T.n_tuple (by decide +kernel) rfl) pa_nil))) pa_nil))) (pe_and (pe_cmpR op_gt (pe_callB (kc_len (K := K) rfl) rfl T.n_len (by decide +kernel) (pa_cons (pv 0) pa_nil)) pe_int (nomark _)) (pe_one (pe_callB (kc_all (K := K) rfl rfl) rfl T.n_all (by decide +kernel) (pa_cons (pe_lc (own := [("text", 1)]) rfl nd (pi_seq (pv 0)) (blkOk_by (N := nare_pieces) (sc := defScope sare_pieces) (by decide +kernel)) (fun _ _ _ _ _ => (pg_name (i := 1) nd rfl (Or.inl rfl))) (fun _ _ _ _ _ => pts_nil) (fun _ _ _ _ _ => (pe_callB (kc_isi (K := K) rfl) rfl T.n_isinstance (by decide +kernel) (pa_cons (pv 1) (pa_cons (pe_bltn (v := .ty "str") rfl T.n_str (by decide +kernel) rfl) pa_nil))))) pa_nil))))))), ?_⟩
    refine s_ret (v := .bl true) ?_ fun H1 e1 => k _ _ e1 (.bl _)
    have hp : 0 < zs.length := List.length_pos_iff.mpr hne
    have hL : ((List.range zs.length).map fun _ => true).map PyData.bool = givenD (zs.map PyData.str).length (fun _ => true) fun _ => PyData.bool true := by
      rw [givenD_all, List.map_map, List.length_map]
      rfl
    rcases hz with rfl | rfl
    · refine ev_is (ev_andV (a := true) (b := true && ((List.range zs.length).map fun _ => true).all id) (by walk_at "evr") fun _ => ev_andV (a := true) ?_ fun _ => ev_all ?_) (by simp)
      · refine ev_is (v := .bl (decide ((0 : Int) < ((zs.map PyData.str).length : Nat)))) (by walk_at "ev") ?_
        rw [decide_eq_true]
        simp
        omega
      · rw [hL]
        refine ed_seqL (ed_lcL (ed_var rfl hd) (by rw [List.length_map]; omega) (fun _ => rfl) _ _ (fun i x dx Hb eb hx h1 => et_yes) (fun i x dx Hb eb hx h1 _ => ?_))
        rw [List.getElem?_map] at h1
        obtain ⟨z, hz, rfl⟩ := Option.map_eq_some_iff.mp h1
        exact ed_bl (by walk_at "evr")
    · refine ev_is (ev_andV (a := true) (b := true && ((List.range zs.length).map fun _ => true).all id) (by walk_at "evr") fun _ => ev_andV (a := true) ?_ fun _ => ev_all ?_) (by simp)
      · refine ev_is (v := .bl (decide ((0 : Int) < ((zs.map PyData.str).length : Nat)))) (by walk_at "ev") ?_
        rw [decide_eq_true]
        simp
        omega
      · rw [hL]
        refine ed_seqT (ed_lcT (ed_var rfl hd) (by rw [List.length_map]; omega) (fun _ => rfl) _ _ (fun i x dx Hb eb hx h1 => et_yes) (fun i x dx Hb eb hx h1 _ => ?_))
        rw [List.getElem?_map] at h1
        obtain ⟨z, hz, rfl⟩ := Option.map_eq_some_iff.mp h1
        exact ed_bl (by walk_at "evr")
end
end Rel
end
section
open PySem PySem.Spec PyProof.Rows L2 Evl Rel
local macro_rules | `(tactic| walk_at "hp") => `(tactic| first | assumption | exact upd_same)
local macro_rules | `(tactic| walk_at "mem") => `(tactic| first | exact List.Mem.head _ | exact List.Mem.tail _ (List.Mem.head _) | exact List.Mem.tail _ (List.Mem.tail _ (List.Mem.head _)) | exact List.Mem.tail _ (List.Mem.tail _ (List.Mem.tail _ (List.Mem.head _))))
local macro_rules | `(tactic| walk_at "rc") => `(tactic| first | exact rc_int1 | exact rc_intB | exact rc_abs | exact rc_lenL (sq_of (by assumption)) | exact rc_lenT (st_of (by assumption)) | exact rc_lenL (by assumption) | exact rc_lenT (by assumption))
local macro_rules | `(tactic| walk_at "rv") => `(tactic| first | exact rv_I0 | (refine' rv_I ?_; omega) | (refine' rv_I ?_; first | exact ⟨by omega, by omega⟩ | exact .inl ⟨by omega, by omega⟩ | exact .inr ⟨by omega, by omega⟩) | exact rv_ixL (sq_of (by assumption)) rfl | exact rv_ixL (by assumption) rfl | exact rv_ixT (st_of (by assumption)) rfl | exact rv_ixT (by assumption) rfl | exact rv_eq rfl | exact rv_ne rfl)
local macro_rules | `(tactic| walk_at "ed") => `(tactic| first
  | exact ed_var rfl (by assumption)
  | exact ed_ev (ev_var rfl) (.int _)
  | exact ed_ev (ev_var rfl) (.str _)
  | exact ed_ev ev_c .non
  | exact ed_ev ev_c (.bl _)
  | exact ed_ev ev_c (.int _)
  | exact ed_ev ev_c (.str _)
  | (apply ed_ixT; walk_at "ed"; exact ev_c; rfl; rfl)
  | (apply ed_ixL; walk_at "ed"; exact ev_c; rfl; rfl)
  | (apply ed_tup; walk_at "da"; exact of_decide_eq_true rfl)
  | (apply ed_lst; walk_at "da"; exact of_decide_eq_true rfl))
local macro_rules | `(tactic| walk_at "da") => `(tactic| first
  | exact da_nil
  | (apply da_cons; walk_at "ed"; walk_at "da"))
local macro_rules | `(tactic| walk_at "ev") => `(tactic| first
  | exact ev_c
  | (apply ev_is1; walk_at "ed"; simp)
  | (apply ev_is2; walk_at "ed"; simp; simp)
  | (apply ev_ninC; walk_at "ev"; exact ev_c; walk_at "mem")
  | (apply ev_ixC; exact ev_c; walk_at "ev"; walk_at "mem")
  | (apply ev_edI; apply ed_ixT; walk_at "ed"; exact ev_c; rfl; rfl)
  | (apply ev_edS; apply ed_ixT; walk_at "ed"; exact ev_c; rfl; rfl)
  | (apply ev_chain; walk_at "ev"; walk_at "ev"; walk_at "rv"; (intro _; walk_at "ev"); (intro _; walk_at "rv"))
  | (apply ev_notV; walk_at "ev")
  | (apply ev_andV; walk_at "ev"; (intro _; walk_at "ev"))
  | exact ev_lenL (ed_var rfl (by assumption))
  | (apply ev_edB; apply ed_call; walk_at "da"; apply spFun_D; first | trivial | assumption)
  | exact ev_lenT (ed_var rfl (by assumption))
  | (apply ev_isND; walk_at "ed")
  | (apply ev_notND; walk_at "ed")
  | (apply ev_isN; walk_at "ev")
  | (apply ev_notN; walk_at "ev")
  | exact ev_var rfl
  | (apply ev_op; walk_at "ev"; walk_at "ev"; walk_at "rv")
  | (apply ev_un; walk_at "ev"; exact ru_neg)
  | (apply ev_cb; walk_at "ea"; walk_at "rc"))
local macro_rules | `(tactic| walk_at "ea") => `(tactic| first
  | exact ea_nil
  | (apply ea_cons; walk_at "ev"; walk_at "ea"))
local macro_rules | `(tactic| walk_at "et") => `(tactic| first
  | (apply et_test; walk_at "ev")
  | (apply et_B; walk_at "ev")
  | (apply et_or; walk_at "et"; (intro _; walk_at "et"))
  | (apply et_and; walk_at "et"; (intro _; walk_at "et"))
  | (apply et_not; walk_at "et"))
local macro_rules | `(tactic| walk_at "evr") => `(tactic| (apply ev_is; walk_at "ev"; rfl))
local macro_rules | `(tactic| walk_at "etr") => `(tactic| (first | apply et_B | apply et_test); (apply ev_is; walk_at "ev"; rfl))
local macro_rules | `(tactic| walk_at "evs") => `(tactic| (apply ev_is; walk_at "ev"; simp [isiB, tyN]))
local macro_rules | `(tactic| walk_at "ets") => `(tactic| (apply et_is; walk_at "et"; simp [isiB, tyN]))
local macro_rules | `(tactic| walk_at "etr1") => `(tactic| (apply et_is; walk_at "et"; rfl))
local macro_rules | `(tactic| walk_at "rv") => `(tactic| first | exact rv_eq (scal_iO _ _) | exact rv_ne (scal_iO _ _) | exact rv_eq (scal_Oi _ _) | exact rv_ne (scal_Oi _ _))
local macro_rules | `(tactic| walk_at "etk") => `(tactic| (apply et_is; walk_at "et"; kernel_rfl))
local macro_rules | `(tactic| walk_at "fl") => `(tactic| first
  | (apply ev_fld (hn := (‹Txt _ _ _›).oHost_own_number) (hl := fl_number); exact ev_var rfl; (first | assumption | exact HA.p_ (by assumption)); exact (‹Txt _ _ _›).cHost)
  | (apply ev_fld (hn := (‹Txt _ _ _›).oHost_own_phase) (hl := fl_phase); exact ev_var rfl; (first | assumption | exact HA.p_ (by assumption)); exact (‹Txt _ _ _›).cHost)
  | (apply ev_fld (hn := (‹Txt _ _ _›).oHost_own_hop) (hl := fl_hop); exact ev_var rfl; (first | assumption | exact HA.p_ (by assumption)); exact (‹Txt _ _ _›).cHost)
  | (apply ev_fld (hn := (‹Txt _ _ _›).oHost_own_try) (hl := fl_try); exact ev_var rfl; (first | assumption | exact HA.p_ (by assumption)); exact (‹Txt _ _ _›).cHost)
  | (apply ev_fld (hn := (‹Txt _ _ _›).oHost_own_text) (hl := fl_text); exact ev_var rfl; (first | assumption | exact HA.p_ (by assumption)); exact (‹Txt _ _ _›).cHost)
  | (apply ev_fld (hn := (‹Txt _ _ _›).oHost_own_goal) (hl := fl_goal); exact ev_var rfl; (first | assumption | exact HA.p_ (by assumption)); exact (‹Txt _ _ _›).cHost)
  | (apply ev_fld (hn := (‹Txt _ _ _›).oHost_own_pieces) (hl := fl_pieces); exact ev_var rfl; (first | assumption | exact HA.p_ (by assumption)); exact (‹Txt _ _ _›).cHost)
  | (apply ev_fld (hn := (‹Txt _ _ _›).oHost_own_taken) (hl := fl_taken); exact ev_var rfl; (first | assumption | exact HA.p_ (by assumption)); exact (‹Txt _ _ _›).cHost)
  | (apply ev_fld (hn := (‹Txt _ _ _›).oHost_own_from) (hl := fl_from); exact ev_var rfl; (first | assumption | exact HA.p_ (by assumption)); exact (‹Txt _ _ _›).cHost)
  | (apply ev_fld (hn := (‹Txt _ _ _›).oHost_own_many) (hl := fl_many); exact ev_var rfl; (first | assumption | exact HA.p_ (by assumption)); exact (‹Txt _ _ _›).cHost)
  | (apply ev_fld (hn := (‹Txt _ _ _›).oHost_own_came) (hl := fl_came); exact ev_var rfl; (first | assumption | exact HA.p_ (by assumption)); exact (‹Txt _ _ _›).cHost))
local macro_rules | `(tactic| walk_at "ev") => `(tactic| walk_at "fl")
namespace Rel
open PySem PySem.Spec PyProof.Rows L2 Evl
section
variable {P : Program} {w : World} {K : PySem.W.Frag} {mg : Str → Option Value} {base : Heap}
theorem ok_Host_number {f : Addr} {fd : FuncData} (F : FnP K "number" "Host.number" sHost_number f fd) (T : Txt K mg w) : FnOk P w K mg base CX0 1 f fd ["self"] (spGet T.aHost fun s => .int s.num) := by
  refine F.ok scHost_number (fun vs H Q E h => ?_) (fun cdv A outer s H vs Q E hr h => ?_)
  · obtain ⟨_, _, _, _, rfl, _⟩ := h
    rfl
  · obtain ⟨p, td, pl, s, rfl, ⟨⟨dx, cm, hp, hc⟩, ht, hpc⟩, k⟩ := h
    refine ⟨_, PSs.nox (pss_one (ps_ret (pe_fldK (K := K) rfl (pv 0) rfl))), ?_⟩
    exact s_ret (by walk_at "fl") fun H1 e1 => k H1 e1
theorem ok_Host_phase {f : Addr} {fd : FuncData} (F : FnP K "phase" "Host.phase" sHost_phase f fd) (T : Txt K mg w) : FnOk P w K mg base CX0 1 f fd ["self"] (spGet T.aHost fun s => .str s.phase) := by
  refine F.ok scHost_phase (fun vs H Q E h => ?_) (fun cdv A outer s H vs Q E hr h => ?_)
  · obtain ⟨_, _, _, _, rfl, _⟩ := h
    rfl
  · obtain ⟨p, td, pl, s, rfl, ⟨⟨dx, cm, hp, hc⟩, ht, hpc⟩, k⟩ := h
    refine ⟨_, PSs.nox (pss_one (ps_ret (pe_fldK (K := K) rfl (pv 0) rfl))), ?_⟩
    exact s_ret (by walk_at "ev") fun H1 e1 => k H1 e1
theorem ok_Host_hop {f : Addr} {fd : FuncData} (F : FnP K "hop" "Host.hop" sHost_hop f fd) (T : Txt K mg w) : FnOk P w K mg base CX0 1 f fd ["self"] (spGet T.aHost fun s => .int s.hop) := by
  refine F.ok scHost_hop (fun vs H Q E h => ?_) (fun cdv A outer s H vs Q E hr h => ?_)
  · obtain ⟨_, _, _, _, rfl, _⟩ := h
    rfl
  · obtain ⟨p, td, pl, s, rfl, ⟨⟨dx, cm, hp, hc⟩, ht, hpc⟩, k⟩ := h
    refine ⟨_, PSs.nox (pss_one (ps_ret (pe_fldK (K := K) rfl (pv 0) rfl))), ?_⟩
    exact s_ret (by walk_at "ev") fun H1 e1 => k H1 e1
theorem ok_Host_running {f : Addr} {fd : FuncData} (F : FnP K "running" "Host.running" sHost_running f fd) (T : Txt K mg w) : FnOk P w K mg base CX0 1 f fd ["self"] (spGet T.aHost fun s => oS s.running) := by
  refine F.ok scHost_running (fun vs H Q E h => ?_) (fun cdv A outer s H vs Q E hr h => ?_)
  · obtain ⟨_, _, _, _, rfl, _⟩ := h
    rfl
  · obtain ⟨p, td, pl, s, rfl, ⟨⟨dx, cm, hp, hc⟩, ht, hpc⟩, k⟩ := h
    refine ⟨_, PSs.nox (pss_one (ps_ret (pe_ifExp (pt_cmpR op_eq (pe_fldK (K := K) rfl (pv 0) rfl) (pe_glob (v := .str "runs") rfl T.gRUNS_relay ⟨_, rfl⟩) (nomark _)) (pe_fldK (K := K) rfl (pv 0) rfl) pe_non))), ?_⟩
    refine s_ret (v := oS s.running) (ev_if (b := decide (V.str s.phase = V.str "runs")) (by walk_at "et") (fun z => ?_) (fun z => ?_)) fun H1 e1 => k H1 e1
    · have e : s.phase = "runs" := V.str.inj (of_decide_eq_true z)
      refine ev_is (v := oS s.text) (by walk_at "ev") ?_
      unfold HostS.running
      rw [if_pos e]
    · have e : ¬ s.phase = "runs" := fun q => (of_decide_eq_false z) (by rw [q])
      refine ev_is (v := .non) (by walk_at "ev") ?_
      unfold HostS.running
      rw [if_neg e]
      rfl
theorem ok_Host_begin {f : Addr} {fd : FuncData} (F : FnP K "begin" "Host.begin" sHost_begin f fd) (T : Txt K mg w) : FnOk P w K mg base CX0 1 f fd ["self", "text"]
    (spM T.aHost Str (fun z => [.str z]) (fun _ s _ => s.phase = "away" ∧ s.hop = 0) (fun z s => { s with phase := "runs", text := some z }) fun _ _ => .non) := by
  refine F.ok scHost_begin (fun vs H Q E h => ?_) (fun cdv A outer s H vs Q E hr h => ?_)
  · obtain ⟨_, _, _, _, _, rfl, _⟩ := h
    rfl
  · obtain ⟨z, p, td, pl, s, rfl, hh, ⟨h1, h2⟩, k⟩ := h
    obtain ⟨dx, cm, h0⟩ := hh.ha
    refine ⟨_, PSs.nox (pss_cons (ps_if (pt_not (pt_val (pe_callB (kc_isi (K := K) rfl) rfl T.n_isinstance (by decide +kernel) (pa_cons (pv 1) (pa_cons (pe_bltn (v := .ty "str") rfl T.n_str (by decide +kernel) rfl) pa_nil))))) (pss_one ps_never) pss_nil)
  (pss_cons (ps_if (PW.pt (pw_or (pt_cmpR op_ne (pe_fldK (K := K) rfl (pv 0) rfl) (pe_glob (v := .str "away") rfl T.gAWAY ⟨_, rfl⟩) (nomark _)) (pw_or1 (pt_cmpR op_gt (pe_fldK (K := K) rfl (pv 0) rfl) pe_int (nomark _))))) (pss_one ps_never) pss_nil)
  (pss_one (ps_asg (pe_tup (pa_cons (pe_glob (v := .str "runs") rfl T.gRUNS_relay ⟨_, rfl⟩) (pa_cons (pv 1) pa_nil))) (pg_tup rfl (pgs_cons (pg_fld (pv 0)) (pgs_cons (pg_fld (pv 0)) pgs_nil))))))), ?_⟩
    have hz : Da N0 H (.str z) (.str z) := .str z
    refine q_when (b := false) (by walk_at "ets") (fun z => nomatch z) fun _ H1 e1 => ?_
    have h1' := h0.ex e1
    refine q_when (b := false) ?_ (fun z => nomatch z) fun _ H2 e2 => ?_
    · refine et_is (a := !decide (V.str s.phase = V.str "away") || decide ((0 : Int) < s.hop)) (by walk_at "et") ?_
      rw [h1, h2]
      simp
    · refine s_asgT (ea_cons (ev_c) (ea_cons (ev_var rfl) ea_nil)) rfl (by show 2 ≤ 1000; decide) fun H3 e3 => ?_
      have e := (e1.trans e2).trans e3
      refine g_cons (gH_phase T.cHost T.oHost_own_phase (ev_var rfl) (h0.ex e) fun H4 h4 b4 => g_cons (gH_text (z := some z) T.cHost T.oHost_own_text (ev_var rfl) h4 fun H5 h5 b5 => g_nil ?_))
      exact k td pl H5 h5.host (.inl rfl) (.inl rfl) (((Frm.of_ex e).but b4).but b5)
theorem ok_Host_leave {f : Addr} {fd : FuncData} (F : FnP K "leave" "Host.leave" sHost_leave f fd) (T : Txt K mg w) : FnOk P w K mg base CX0 1 f fd ["self"]
    (spM T.aHost Unit (fun _ => []) (fun _ _ _ => True) (fun _ s => s.left) fun _ _ => .non) := by
  refine F.ok scHost_leave (fun vs H Q E h => ?_) (fun cdv A outer s H vs Q E hr h => ?_)
  · obtain ⟨_, _, _, _, _, rfl, _⟩ := h
    rfl
  · obtain ⟨_, p, td, pl, s, rfl, hh, _, k⟩ := h
    obtain ⟨dx, cm, h0⟩ := hh.ha
    refine ⟨_, PSs.nox (pss_one (ps_asg (pe_tup (pa_cons (pe_glob (v := .str "away") rfl T.gAWAY ⟨_, rfl⟩) (pa_cons pe_non (pa_cons (pe_lst pa_nil) pa_nil)))) (pg_tup rfl (pgs_cons (pg_fld (pv 0)) (pgs_cons (pg_fld (pv 0)) (pgs_cons (pg_fld (pv 0)) pgs_nil)))))), ?_⟩
    refine ⟨by show 0 ≤ sizeLine; decide, fun q hq => ⟨by show 3 ≤ sizeLine; decide, fun U hU => ⟨U, _, rfl, st_of upd_same, rfl, ?_⟩⟩⟩
    have e : Ex H (upd (upd H q (.lst [])) U (.tup [.str "away", .non, .ref q])) := (Ex.new hq).trans (Ex.new hU)
    have hq2 : (upd (upd H q (.lst [])) U (.tup [.str "away", .non, .ref q])) q = some (.lst []) := Ex.new hU _ _ upd_same
    generalize upd (upd H q (.lst [])) U (.tup [.str "away", .non, .ref q]) = H3 at e hq2 ⊢
    have h3 := h0.ex e
    refine g_cons (gH_phase T.cHost T.oHost_own_phase (ev_var rfl) h3 fun H4 h4 b4 => g_cons (gH_goal (z := none) T.cHost T.oHost_own_goal (ev_var rfl) h4 fun H5 h5 b5 => g_cons ?_))
    refine gH_pieces (zs := []) T.cHost T.oHost_own_pieces (ev_var rfl) h5 (b5.at h4.p_ (b4.at h3.p_ hq2 (by intro z; cases z)) (by intro z; cases z)) fun H6 h6 b6 => g_nil ?_
    exact k td q H6 h6.host (.inl rfl) (.inr hq) ((((Frm.of_ex e).but b4).but b5).but b6)
theorem ok_Host_resume {f : Addr} {fd : FuncData} (F : FnP K "resume" "Host.resume" sHost_resume f fd) (T : Txt K mg w) : FnOk P w K mg base CX0 1 f fd ["self"]
    (spM T.aHost Unit (fun _ => []) (fun _ s _ => s.phase = "frozen") (fun _ s => { s with phase := "runs", goal := none, pieces := [] }) fun _ _ => .non) := by
  refine F.ok scHost_resume (fun vs H Q E h => ?_) (fun cdv A outer s H vs Q E hr h => ?_)
  · obtain ⟨_, _, _, _, _, rfl, _⟩ := h
    rfl
  · obtain ⟨_, p, td, pl, s, rfl, hh, hf, k⟩ := h
    obtain ⟨dx, cm, h0⟩ := hh.ha
    refine ⟨_, PSs.nox (pss_cons (ps_if (pt_cmpR op_ne (pe_fldK (K := K) rfl (pv 0) rfl) (pe_glob (v := .str "frozen") rfl T.gFROZEN_relay ⟨_, rfl⟩) (nomark _)) (pss_one ps_never) pss_nil)
  (pss_one (ps_asg (pe_tup (pa_cons (pe_glob (v := .str "runs") rfl T.gRUNS_relay ⟨_, rfl⟩) (pa_cons pe_non (pa_cons (pe_lst pa_nil) pa_nil)))) (pg_tup rfl (pgs_cons (pg_fld (pv 0)) (pgs_cons (pg_fld (pv 0)) (pgs_cons (pg_fld (pv 0)) pgs_nil))))))), ?_⟩
    refine q_when (b := false) ?_ (fun z => nomatch z) fun _ H1 e1 => ?_
    · refine et_is (a := !decide (V.str s.phase = V.str "frozen")) (by walk_at "et") ?_
      rw [hf]
      simp
    refine ⟨by show 0 ≤ sizeLine; decide, fun q hq => ⟨by show 3 ≤ sizeLine; decide, fun U hU => ⟨U, _, rfl, st_of upd_same, rfl, ?_⟩⟩⟩
    have e : Ex H (upd (upd H1 q (.lst [])) U (.tup [.str "runs", .non, .ref q])) := e1.trans ((Ex.new hq).trans (Ex.new hU))
    have hq2 : (upd (upd H1 q (.lst [])) U (.tup [.str "runs", .non, .ref q])) q = some (.lst []) := Ex.new hU _ _ upd_same
    generalize upd (upd H1 q (.lst [])) U (.tup [.str "runs", .non, .ref q]) = H3 at e hq2 ⊢
    have h3 := h0.ex e
    refine g_cons (gH_phase T.cHost T.oHost_own_phase (ev_var rfl) h3 fun H4 h4 b4 => g_cons (gH_goal (z := none) T.cHost T.oHost_own_goal (ev_var rfl) h4 fun H5 h5 b5 => g_cons ?_))
    refine gH_pieces (zs := []) T.cHost T.oHost_own_pieces (ev_var rfl) h5 (b5.at h4.p_ (b4.at h3.p_ hq2 (by intro z; cases z)) (by intro z; cases z)) fun H6 h6 b6 => g_nil ?_
    exact k td q H6 h6.host (.inl rfl) (.inr (fresh_back e1 hq)) ((((Frm.of_ex e).but b4).but b5).but b6)
/-- the pieces and the goal that a freeze is handed -/
structure FzA where
  g : Int
  v : V
  zs : List Str
  d : PyData
theorem ok_Host_freeze {f : Addr} {fd : FuncData} (F : FnP K "freeze" "Host.freeze" sHost_freeze f fd) (T : Txt K mg w)
    (Fis_number : Fx P w K mg base CX0 "is_number" ["thing"] 1 (spFun (fun d => .bool (isIntD d)) fun _ => True))
    (Fare_pieces : Fx P w K mg base CX0 "are_pieces" ["thing"] 1 (spFun (fun _ => .bool true) fun d => ∃ zs : List Str, strsD zs d ∧ zs ≠ [] ∧ zs.length ≤ 30000)) : FnOk P w K mg base CX0 2 f fd ["self", "goal", "pieces"]
    (spM T.aHost FzA (fun a => [.int a.g, a.v]) (fun a s H => s.phase = "runs" ∧ 0 ≤ a.g ∧ a.g ≠ s.num ∧ Da N0 H a.v a.d ∧ strsD a.zs a.d ∧ a.zs ≠ [] ∧ a.zs.length ≤ 30000)
      (fun a s => { s with phase := "frozen", goal := some a.g, pieces := a.zs, tri := s.tri + 1 }) fun _ s => .int (s.tri + 1)) := by
  refine F.ok scHost_freeze (fun vs H Q E h => ?_) (fun cdv A outer s H vs Q E hr h => ?_)
  · obtain ⟨_, _, _, _, _, rfl, _⟩ := h
    rfl
  · obtain ⟨⟨g, v, zs, d⟩, p, td, pl, s, rfl, hh, ⟨hph, hg, hgn, hv, hzs, hne, hlen⟩, k⟩ := h
    obtain ⟨dx, cm, h0⟩ := hh.ha
    refine ⟨_, PSs.nox (pss_cons (ps_if (PW.pt (pw_or (pt_not (pt_val (pe_call Fis_number.ok (hr.mono (by first | decide | omega)) rfl Fis_number.g Fis_number.kp Fis_number.b .nil pass0 (pa_cons (pv 1) pa_nil)))) (pw_or (pt_cmpR op_lt (pv 1) pe_int (nomark _)) (pw_or (pt_cmpR op_eq (pv 1) (pe_fldK (K := K) rfl (pv 0) rfl) (nomark _)) (pw_or1 (pt_not (pt_val (pe_call Fare_pieces.ok (hr.mono (by first | decide | omega)) rfl Fare_pieces.g Fare_pieces.kp Fare_pieces.b .nil pass0 (pa_cons (pv 2) pa_nil))))))))) (pss_one ps_never) pss_nil)
  (pss_cons (ps_if (pt_cmpR op_ne (pe_fldK (K := K) rfl (pv 0) rfl) (pe_glob (v := .str "runs") rfl T.gRUNS_relay ⟨_, rfl⟩) (nomark _)) (pss_one ps_never) pss_nil)
  (pss_cons (ps_asg (pe_tup (pa_cons (pe_glob (v := .str "frozen") rfl T.gFROZEN_relay ⟨_, rfl⟩) (pa_cons (pv 1) (pa_cons (pe_callTy (kc_list (K := K) rfl) rfl T.n_list (by decide +kernel) (pa_cons (pv 2) pa_nil)) pa_nil)))) (pg_tup rfl (pgs_cons (pg_fld (pv 0)) (pgs_cons (pg_fld (pv 0)) (pgs_cons (pg_fld (pv 0)) pgs_nil)))))
  (pss_cons (ps_fldaug (pv 0) pe_int in_add)
  (pss_one (ps_ret (pe_fldK (K := K) rfl (pv 0) rfl))))))), ?_⟩
    have hgd : Da N0 H (.int g) (.int g) := .int g
    have hv' : Da N0 H v d := hv
    have hex : ∃ zs : List Str, strsD zs d ∧ zs ≠ [] ∧ zs.length ≤ 30000 := ⟨zs, hzs, hne, hlen⟩
    refine q_when (b := false) ?_ (fun z => nomatch z) fun _ H1 e1 => ?_
    · refine et_is (a := !isIntD (.int g) || (decide (g < 0) || (decide (V.int g = V.int s.num) || !true))) (by walk_at "et") ?_
      have q1 : ¬ g < 0 := by show ¬ g < 0; have : 0 ≤ g := hg; omega
      have q2 : ¬ V.int g = V.int s.num := fun z => hgn (V.int.inj z)
      rw [decide_eq_false q1, decide_eq_false q2]
      rfl
    have h1 := h0.ex e1
    refine q_when (b := false) ?_ (fun z => nomatch z) fun _ H2 e2 => ?_
    · refine et_is (a := !decide (V.str s.phase = V.str "runs")) (by walk_at "et") ?_
      rw [hph]
      simp
    obtain ⟨q0, hvq, hsq⟩ : ∃ q0, v = .ref q0 ∧ (SqL K H2 q0 (zs.map V.str) ∨ SqT K H2 q0 (zs.map V.str)) := by
      have hv2 := hv'.ex (e1.trans e2)
      rcases (show strsD zs d from hzs) with rfl | rfl
      · obtain ⟨a, xs, rfl, g1, _, g2⟩ := hv2.lst_inv
        exact ⟨a, rfl, .inl (by rw [g2.strs] at g1; exact sq_of g1)⟩
      · obtain ⟨a, xs, rfl, g1, _, g2⟩ := hv2.tup_inv
        exact ⟨a, rfl, .inr (by rw [g2.strs] at g1; exact st_of g1)⟩
    refine ⟨_, rfl, _, rfl, q0, zs.map V.str, by rw [hvq], hsq, fun q hq => ⟨by show 3 ≤ sizeLine; decide, fun U hU => ⟨U, _, rfl, st_of upd_same, rfl, ?_⟩⟩⟩
    have e : Ex H2 (upd (upd H2 q (.lst (zs.map V.str))) U (.tup [.str "frozen", .int g, .ref q])) := (Ex.new hq).trans (Ex.new hU)
    have hq2 : (upd (upd H2 q (.lst (zs.map V.str))) U (.tup [.str "frozen", .int g, .ref q])) q = some (.lst (zs.map V.str)) := Ex.new hU _ _ upd_same
    generalize upd (upd H2 q (.lst (zs.map V.str))) U (.tup [.str "frozen", .int g, .ref q]) = H3 at e hq2 ⊢
    have h3 := (h1.ex e2).ex e
    refine g_cons (gH_phase T.cHost T.oHost_own_phase (ev_var rfl) h3 fun H4 h4 b4 => g_cons (gH_goal (z := some g) T.cHost T.oHost_own_goal (ev_var rfl) h4 fun H5 h5 b5 => g_cons ?_))
    refine gH_pieces (zs := zs) T.cHost T.oHost_own_pieces (ev_var rfl) h5 (b5.at h4.p_ (b4.at h3.p_ hq2 (by intro z; cases z)) (by intro z; cases z)) fun H6 h6 b6 => g_nil ?_
    refine ⟨_, rfl, p, T.aHost, dx, _, _, rfl, h6.p_, T.cHost, T.oHost_own_try, fl_try, _, _, rfl, rfl, _, _, h6.p_, fl_len, ?_⟩
    rw [pu_try]
    have b7 : But p H6 (upd H6 p (.ins T.aHost dx (flds td q cm { s with phase := "frozen", goal := some g, pieces := zs, tri := s.tri + 1 }))) := But.upd
    have h7 : HA T.aHost dx (upd H6 p (.ins T.aHost dx (flds td q cm { s with phase := "frozen", goal := some g, pieces := zs, tri := s.tri + 1 }))) p td q cm { s with phase := "frozen", goal := some g, pieces := zs, tri := s.tri + 1 } :=
      ⟨upd_same, h6.c_.but b7 h6.p_ id, b7.at h6.p_ h6.t_ (by intro z; cases z), b7.at h6.p_ h6.l_ (by intro z; cases z)⟩
    show tRet (tFld K (tVar 0) "own_try") _ _ (upd H6 p (.ins T.aHost dx (flds td q cm { s with phase := "frozen", goal := some g, pieces := zs, tri := s.tri + 1 })))
    generalize upd H6 p (.ins T.aHost dx (flds td q cm { s with phase := "frozen", goal := some g, pieces := zs, tri := s.tri + 1 })) = H7 at b7 h7 ⊢
    refine s_ret (v := .int (s.tri + 1)) (by walk_at "evr") fun H8 e8 => ?_
    exact k td q H8 (h7.ex e8).host (.inl rfl) (.inr (fresh_back (e1.trans e2) hq)) (((((Frm.of_ex ((e1.trans e2).trans e)).but b4).but b5).but b6).but b7 |>.ex e8)
theorem ok_Host_is_whole {f : Addr} {fd : FuncData} (F : FnP K "is_whole" "Host.is_whole" sHost_is_whole f fd) (T : Txt K mg w) : FnOk P w K mg base CX0 1 f fd ["self"] (spGet T.aHost fun s => .bl s.whole) := by
  refine F.ok scHost_is_whole (fun vs H Q E h => ?_) (fun cdv A outer s H vs Q E hr h => ?_)
  · obtain ⟨_, _, _, _, rfl, _⟩ := h
    rfl
  · obtain ⟨p, td, pl, s, rfl, hh, k⟩ := h
    obtain ⟨dx, cm, h0⟩ := hh.ha
    refine ⟨_, PSs.nox (pss_one (ps_ret (pe_and (pe_cmp (pc_notN (pe_fldK (K := K) rfl (pv 0) rfl)) rfl) (pe_and (pe_cmpR op_gt (pe_fldK (K := K) rfl (pv 0) rfl) pe_int (nomark _)) (pe_one (pe_cmpR op_eq (pe_callB call_lenD rfl T.n_len (by decide +kernel) (pa_cons (pe_fldK (K := K) rfl (pv 0) rfl) pa_nil)) (pe_fldK (K := K) rfl (pv 0) rfl) (nomark _))))))), ?_⟩
    refine s_ret (v := .bl s.whole) ?_ fun H1 e1 => k H1 e1
    refine ev_is (ev_andV (ev_notN (v := oI s.frm) (by walk_at "ev")) fun _ => ev_andV (a := decide (0 < s.many)) (by walk_at "ev") fun _ => ev_op (ev_dlen (a := td) (by walk_at "ev") h0.t_) (y := .int s.many) (by walk_at "ev") (rv_eq rfl)) ?_
    unfold HostS.whole
    rw [List.length_map]
    cases s.frm with
    | none => rfl
    | some z => simp [oI]
theorem ok_Host_take_answer {f : Addr} {fd : FuncData} (F : FnP K "take_answer" "Host.take_answer" sHost_take_answer f fd) (T : Txt K mg w)
    (FHost_leave : Mx P w K mg base CX0 T.aHost "leave" ["self"] 1 (spM T.aHost Unit (fun _ => []) (fun _ _ _ => True) (fun _ s => s.left) fun _ _ => .non)) : FnOk P w K mg base CX0 2 f fd ["self", "word"]
    (spM T.aHost Bool (fun b => [.str (if b then "whole" else "going")]) (fun _ _ _ => True) (fun b s => s.answer b) fun _ _ => .non) := by
  refine F.ok scHost_take_answer (fun vs H Q E h => ?_) (fun cdv A outer s H vs Q E hr h => ?_)
  · obtain ⟨_, _, _, _, _, rfl, _⟩ := h
    rfl
  · obtain ⟨b, p, td, pl, s, rfl, hh, _, k⟩ := h
    obtain ⟨dx, cm, h0⟩ := hh.ha
    refine ⟨_, PSs.nox (pss_one (ps_if (PW.pt (pw_and (pt_cmpR op_eq (pv 1) (pe_glob (v := .str "whole") rfl T.gWHOLE_relay ⟨_, rfl⟩) (nomark _)) (pw_and1 (pt_cmpR op_eq (pe_fldK (K := K) rfl (pv 0) rfl) (pe_glob (v := .str "frozen") rfl T.gFROZEN_relay ⟨_, rfl⟩) (nomark _))))) (pss_one (ps_asg (pe_tup (pa_cons (pe_glob (v := .str "given") rfl T.gGIVEN_relay ⟨_, rfl⟩) (pa_cons pe_non pa_nil))) (pg_tup rfl (pgs_cons (pg_fld (pv 0)) (pgs_cons (pg_fld (pv 0)) pgs_nil))))) (pss_one (ps_if (PW.pt (pw_and (pt_cmpR op_eq (pv 1) (pe_glob (v := .str "going") rfl T.gGOING_relay ⟨_, rfl⟩) (nomark _)) (pw_and1 (pt_cmpR op_eq (pe_fldK (K := K) rfl (pv 0) rfl) (pe_glob (v := .str "given") rfl T.gGIVEN_relay ⟨_, rfl⟩) (nomark _))))) (pss_one (ps_expr (pe_meth0 (pv 0) T.cHost FHost_leave.m FHost_leave.ok (hr.mono (by first | decide | omega)) FHost_leave.b .nil pass0))) pss_nil)))), ?_⟩
    cases b with
    | true =>
      by_cases hph : s.phase = "frozen"
      · refine s_if (b := true) ?_ (fun _ H1 e1 => ?_) (fun z => nomatch z)
        · refine et_is (a := decide (V.str "whole" = V.str "whole") && decide (V.str s.phase = V.str "frozen")) (by walk_at "et") ?_
          rw [hph]
          simp
        refine s_asgT (ea_cons ev_c (ea_cons ev_c ea_nil)) rfl (by show 2 ≤ 1000; decide) fun H3 e3 => ?_
        refine g_cons (gH_phase T.cHost T.oHost_own_phase (ev_var rfl) (h0.ex (e1.trans e3)) fun H4 h4 b4 => g_cons (gH_text (z := none) T.cHost T.oHost_own_text (ev_var rfl) h4 fun H5 h5 b5 => g_nil ?_))
        have hs : s.answer true = { s with phase := "given", text := none } := by unfold HostS.answer; rw [if_pos rfl, if_pos hph]
        exact k td pl H5 (by show HostAt _ _ _ _ _ (s.answer true); rw [hs]; exact h5.host) (.inl rfl) (.inl rfl) (((Frm.of_ex (e1.trans e3)).but b4).but b5)
      · have hs : s.answer true = s := by unfold HostS.answer; rw [if_pos rfl, if_neg hph]
        refine s_if (b := false) ?_ (fun z => nomatch z) fun _ H1 e1 => ?_
        · refine et_is (a := decide (V.str "whole" = V.str "whole") && decide (V.str s.phase = V.str "frozen")) (by walk_at "et") ?_
          simp [hph]
        refine s_when (b := false) ?_ (fun z => nomatch z) fun _ H2 e2 => ?_
        · have h1 := h0.ex e1
          refine et_is (a := decide (V.str "whole" = V.str "going") && decide (V.str s.phase = V.str "given")) (by walk_at "et") ?_
          have : decide (V.str "whole" = V.str "going") = false := by decide +kernel
          rw [this]
          rfl
        exact k td pl H2 (by show HostAt _ _ _ _ _ (s.answer true); rw [hs]; exact (h0.ex (e1.trans e2)).host) (.inl rfl) (.inl rfl) (Frm.of_ex (e1.trans e2))
    | false =>
      refine s_if (b := false) ?_ (fun z => nomatch z) fun _ H1 e1 => ?_
      · refine et_is (a := decide (V.str "going" = V.str "whole") && decide (V.str s.phase = V.str "frozen")) (by walk_at "et") ?_
        have : decide (V.str "going" = V.str "whole") = false := by decide +kernel
        rw [this]
        rfl
      have h1 := h0.ex e1
      by_cases hph : s.phase = "given"
      · refine s_when (b := true) ?_ (fun _ H2 e2 => ?_) (fun z => nomatch z)
        · refine et_is (a := decide (V.str "going" = V.str "going") && decide (V.str s.phase = V.str "given")) (by walk_at "et") ?_
          rw [hph]
          simp
        have h2 := h1.ex e2
        have hs : s.answer false = s.left := by unfold HostS.answer; rw [if_neg (by decide), if_pos hph]
        refine ⟨_, rfl, p, dx, _, rfl, h2.p_, fl_no (by simp), (), p, td, pl, s, rfl, h2.host, trivial, fun td' pl' H' hh' ht hp fr => ?_⟩
        exact k td' pl' H' (by show HostAt _ _ _ _ _ (s.answer false); rw [hs]; exact hh') (ht.imp id fun z => fresh_back (e1.trans e2) z) (hp.imp id fun z => fresh_back (e1.trans e2) z) (fun c o n m q => fr c o n m ((e1.trans e2) c o q))
      · have hs : s.answer false = s := by unfold HostS.answer; rw [if_neg (by decide), if_neg hph]
        refine s_when (b := false) ?_ (fun z => nomatch z) fun _ H2 e2 => ?_
        · refine et_is (a := decide (V.str "going" = V.str "going") && decide (V.str s.phase = V.str "given")) (by walk_at "et") ?_
          simp [hph]
        exact k td pl H2 (by show HostAt _ _ _ _ _ (s.answer false); rw [hs]; exact (h1.ex e2).host) (.inl rfl) (.inl rfl) (Frm.of_ex (e1.trans e2))
end
end Rel
end
section
open PySem PySem.Spec PyProof.Rows L2 Evl Rel
local macro_rules | `(tactic| walk_at "hp") => `(tactic| first | assumption | exact upd_same)
local macro_rules | `(tactic| walk_at "mem") => `(tactic| first | exact List.Mem.head _ | exact List.Mem.tail _ (List.Mem.head _) | exact List.Mem.tail _ (List.Mem.tail _ (List.Mem.head _)) | exact List.Mem.tail _ (List.Mem.tail _ (List.Mem.tail _ (List.Mem.head _))))
local macro_rules | `(tactic| walk_at "rc") => `(tactic| first | exact rc_int1 | exact rc_intB | exact rc_abs | exact rc_lenL (sq_of (by assumption)) | exact rc_lenT (st_of (by assumption)) | exact rc_lenL (by assumption) | exact rc_lenT (by assumption))
local macro_rules | `(tactic| walk_at "rv") => `(tactic| first | exact rv_I0 | (refine' rv_I ?_; omega) | (refine' rv_I ?_; first | exact ⟨by omega, by omega⟩ | exact .inl ⟨by omega, by omega⟩ | exact .inr ⟨by omega, by omega⟩) | exact rv_ixL (sq_of (by assumption)) rfl | exact rv_ixL (by assumption) rfl | exact rv_ixT (st_of (by assumption)) rfl | exact rv_ixT (by assumption) rfl | exact rv_eq rfl | exact rv_ne rfl)
local macro_rules | `(tactic| walk_at "ed") => `(tactic| first
  | exact ed_var rfl (by assumption)
  | exact ed_ev (ev_var rfl) (.int _)
  | exact ed_ev (ev_var rfl) (.str _)
  | exact ed_ev ev_c .non
  | exact ed_ev ev_c (.bl _)
  | exact ed_ev ev_c (.int _)
  | exact ed_ev ev_c (.str _)
  | (apply ed_ixT; walk_at "ed"; exact ev_c; rfl; rfl)
  | (apply ed_ixL; walk_at "ed"; exact ev_c; rfl; rfl)
  | (apply ed_tup; walk_at "da"; exact of_decide_eq_true rfl)
  | (apply ed_lst; walk_at "da"; exact of_decide_eq_true rfl))
local macro_rules | `(tactic| walk_at "da") => `(tactic| first
  | exact da_nil
  | (apply da_cons; walk_at "ed"; walk_at "da"))
local macro_rules | `(tactic| walk_at "ev") => `(tactic| first
  | exact ev_c
  | (apply ev_is1; walk_at "ed"; simp)
  | (apply ev_is2; walk_at "ed"; simp; simp)
  | (apply ev_ninC; walk_at "ev"; exact ev_c; walk_at "mem")
  | (apply ev_ixC; exact ev_c; walk_at "ev"; walk_at "mem")
  | (apply ev_edI; apply ed_ixT; walk_at "ed"; exact ev_c; rfl; rfl)
  | (apply ev_edS; apply ed_ixT; walk_at "ed"; exact ev_c; rfl; rfl)
  | (apply ev_chain; walk_at "ev"; walk_at "ev"; walk_at "rv"; (intro _; walk_at "ev"); (intro _; walk_at "rv"))
  | (apply ev_notV; walk_at "ev")
  | (apply ev_andV; walk_at "ev"; (intro _; walk_at "ev"))
  | exact ev_lenL (ed_var rfl (by assumption))
  | (apply ev_edB; apply ed_call; walk_at "da"; apply spFun_D; first | trivial | assumption)
  | exact ev_lenT (ed_var rfl (by assumption))
  | (apply ev_isND; walk_at "ed")
  | (apply ev_notND; walk_at "ed")
  | (apply ev_isN; walk_at "ev")
  | (apply ev_notN; walk_at "ev")
  | exact ev_var rfl
  | (apply ev_op; walk_at "ev"; walk_at "ev"; walk_at "rv")
  | (apply ev_un; walk_at "ev"; exact ru_neg)
  | (apply ev_cb; walk_at "ea"; walk_at "rc"))
local macro_rules | `(tactic| walk_at "ea") => `(tactic| first
  | exact ea_nil
  | (apply ea_cons; walk_at "ev"; walk_at "ea"))
local macro_rules | `(tactic| walk_at "et") => `(tactic| first
  | (apply et_test; walk_at "ev")
  | (apply et_B; walk_at "ev")
  | (apply et_or; walk_at "et"; (intro _; walk_at "et"))
  | (apply et_and; walk_at "et"; (intro _; walk_at "et"))
  | (apply et_not; walk_at "et"))
local macro_rules | `(tactic| walk_at "evr") => `(tactic| (apply ev_is; walk_at "ev"; rfl))
local macro_rules | `(tactic| walk_at "etr") => `(tactic| (first | apply et_B | apply et_test); (apply ev_is; walk_at "ev"; rfl))
local macro_rules | `(tactic| walk_at "evs") => `(tactic| (apply ev_is; walk_at "ev"; simp [isiB, tyN]))
local macro_rules | `(tactic| walk_at "ets") => `(tactic| (apply et_is; walk_at "et"; simp [isiB, tyN]))
local macro_rules | `(tactic| walk_at "etr1") => `(tactic| (apply et_is; walk_at "et"; rfl))
local macro_rules | `(tactic| walk_at "rv") => `(tactic| first | exact rv_eq (scal_iO _ _) | exact rv_ne (scal_iO _ _) | exact rv_eq (scal_Oi _ _) | exact rv_ne (scal_Oi _ _))
local macro_rules | `(tactic| walk_at "etk") => `(tactic| (apply et_is; walk_at "et"; kernel_rfl))
local macro_rules | `(tactic| walk_at "fl") => `(tactic| first
  | (apply ev_fld (hn := (‹Txt _ _ _›).oHost_own_number) (hl := fl_number); exact ev_var rfl; (first | assumption | exact HA.p_ (by assumption)); exact (‹Txt _ _ _›).cHost)
  | (apply ev_fld (hn := (‹Txt _ _ _›).oHost_own_phase) (hl := fl_phase); exact ev_var rfl; (first | assumption | exact HA.p_ (by assumption)); exact (‹Txt _ _ _›).cHost)
  | (apply ev_fld (hn := (‹Txt _ _ _›).oHost_own_hop) (hl := fl_hop); exact ev_var rfl; (first | assumption | exact HA.p_ (by assumption)); exact (‹Txt _ _ _›).cHost)
  | (apply ev_fld (hn := (‹Txt _ _ _›).oHost_own_try) (hl := fl_try); exact ev_var rfl; (first | assumption | exact HA.p_ (by assumption)); exact (‹Txt _ _ _›).cHost)
  | (apply ev_fld (hn := (‹Txt _ _ _›).oHost_own_text) (hl := fl_text); exact ev_var rfl; (first | assumption | exact HA.p_ (by assumption)); exact (‹Txt _ _ _›).cHost)
  | (apply ev_fld (hn := (‹Txt _ _ _›).oHost_own_goal) (hl := fl_goal); exact ev_var rfl; (first | assumption | exact HA.p_ (by assumption)); exact (‹Txt _ _ _›).cHost)
  | (apply ev_fld (hn := (‹Txt _ _ _›).oHost_own_pieces) (hl := fl_pieces); exact ev_var rfl; (first | assumption | exact HA.p_ (by assumption)); exact (‹Txt _ _ _›).cHost)
  | (apply ev_fld (hn := (‹Txt _ _ _›).oHost_own_taken) (hl := fl_taken); exact ev_var rfl; (first | assumption | exact HA.p_ (by assumption)); exact (‹Txt _ _ _›).cHost)
  | (apply ev_fld (hn := (‹Txt _ _ _›).oHost_own_from) (hl := fl_from); exact ev_var rfl; (first | assumption | exact HA.p_ (by assumption)); exact (‹Txt _ _ _›).cHost)
  | (apply ev_fld (hn := (‹Txt _ _ _›).oHost_own_many) (hl := fl_many); exact ev_var rfl; (first | assumption | exact HA.p_ (by assumption)); exact (‹Txt _ _ _›).cHost)
  | (apply ev_fld (hn := (‹Txt _ _ _›).oHost_own_came) (hl := fl_came); exact ev_var rfl; (first | assumption | exact HA.p_ (by assumption)); exact (‹Txt _ _ _›).cHost))
local macro_rules | `(tactic| walk_at "ev") => `(tactic| walk_at "fl")
namespace Rel
open PySem PySem.Spec PyProof.Rows L2 Evl
section
variable {P : Program} {w : World} {K : PySem.W.Frag} {mg : Str → Option Value} {base : Heap}
theorem ok_is_relay_message {f : Addr} {fd : FuncData} (F : FnP K "is_relay_message" "is_relay_message" sis_relay_message f fd) (T : Txt K mg w)
    (Fis_number : Fx P w K mg base CX0 "is_number" ["thing"] 1 (spFun (fun d => .bool (isIntD d)) fun _ => True)) : FnOk P w K mg base CX0 2 f fd ["thing"] (spFun (fun _ => .bool true) fun d => ∃ m : Msg, m.ok ∧ d = m.d) := by
  refine F.ok scis_relay_message (fun vs H Q E h => ?_) (fun cdv A outer s H vs Q E hr h => ?_)
  · obtain ⟨_, _, _, rfl, _⟩ := h
    rfl
  · obtain ⟨N, v, d, rfl, hN, hv, ⟨m, hm, rfl⟩, k⟩ := h
    have nd := scis_relay_message.nd
    have hd := hv.zero
    refine ⟨_, PSs.nox (pss_cons (ps_if (PW.pt (pw_or (pt_not (pt_val (pe_callB (kc_isi (K := K) rfl) rfl T.n_isinstance (by decide +kernel) (pa_cons (pv 0) (pa_cons (pe_bltn (v := .ty "tuple") rfl T.n_tuple (by decide +kernel) rfl) pa_nil))))) (pw_or (pt_cmpR op_eq (pe_callB (kc_len (K := K) rfl) rfl T.n_len (by decide +kernel) (pa_cons (pv 0) pa_nil)) pe_int (nomark _)) (pw_or (pt_not (pt_val (pe_callB (kc_isi (K := K) rfl) rfl T.n_isinstance (by decide +kernel) (pa_cons (pe_ix (kx_tup (K := K) rfl) (pv 0) pe_int (fun _ _ => rfl)) (pa_cons (pe_bltn (v := .ty "str") rfl T.n_str (by decide +kernel) rfl) pa_nil))))) (pw_or1 (pt_cmpR (op_ninC T.dSHAPES) (pe_ix (kx_tup (K := K) rfl) (pv 0) pe_int (fun _ _ => rfl)) (pe_glob (v := .ref T.aSHAPES) rfl T.gSHAPES rfl) (by rfl))))))) (pss_one (ps_ret pe_bl)) pss_nil)
  (pss_cons (ps_if (pt_cmpR op_ne (pe_callB (kc_len (K := K) rfl) rfl T.n_len (by decide +kernel) (pa_cons (pv 0) pa_nil)) (pe_ix (ix_C T.dSHAPES) (pe_glob (v := .ref T.aSHAPES) rfl T.gSHAPES rfl) (pe_ix (kx_tup (K := K) rfl) (pv 0) pe_int (fun _ _ => rfl)) (fun _ _ => rfl)) (nomark _)) (pss_one (ps_ret pe_bl)) pss_nil)
  (pss_cons (ps_if (pt_not (pt_val (pe_callB (kc_all (K := K) rfl rfl) rfl T.n_all (by decide +kernel) (pa_cons (pe_lc (own := [("part", 1)]) rfl nd (pi_tup (pe_slice (ks_tup (K := K) rfl) (pv 0) (po_some pe_int) (po_some pe_int))) (blkOk_by (N := nis_relay_message) (sc := defScope sis_relay_message) (by decide +kernel)) (fun _ _ _ _ _ => (pg_name (i := 1) nd rfl (Or.inl rfl))) (fun _ _ _ _ _ => pts_nil) (fun _ _ _ _ _ => (pe_and (pe_call Fis_number.ok (hr.mono (by first | decide | omega)) rfl Fis_number.g Fis_number.kp Fis_number.b .nil pass0 (pa_cons (pv 1) pa_nil)) (pe_one (pe_cmpR op_ge (pv 1) pe_int (nomark _)))))) pa_nil)))) (pss_one (ps_ret pe_bl)) pss_nil)
  (pss_cons (ps_if (pt_cmpR op_ne (pe_ix (kx_tup (K := K) rfl) (pv 0) pe_int (fun _ _ => rfl)) (pe_glob (v := .str "piece") rfl T.gPIECE_relay ⟨_, rfl⟩) (nomark _)) (pss_one (ps_ret pe_bl)) pss_nil)
  (pss_cons (ps_asg (pe_slice (ks_tup (K := K) rfl) (pv 0) (po_some pe_int) po_none) (pg_tup rfl (pgs_cons (pg_name (i := 2) nd rfl (Or.inl rfl)) (pgs_cons (pg_name (i := 3) nd rfl (Or.inl rfl)) (pgs_cons (pg_name (i := 4) nd rfl (Or.inl rfl)) pgs_nil)))))
  (pss_one (ps_ret (pe_and (pe_call Fis_number.ok (hr.mono (by first | decide | omega)) rfl Fis_number.g Fis_number.kp Fis_number.b .nil pass0 (pa_cons (pv 2) pa_nil)) (pe_and (pe_call Fis_number.ok (hr.mono (by first | decide | omega)) rfl Fis_number.g Fis_number.kp Fis_number.b .nil pass0 (pa_cons (pv 3) pa_nil)) (pe_and (pe_chain op_le op_lt pe_int (pv 2) (pv 3)) (pe_one (pe_callB (kc_isi (K := K) rfl) rfl T.n_isinstance (by decide +kernel) (pa_cons (pv 4) (pa_cons (pe_bltn (v := .ty "str") rfl T.n_str (by decide +kernel) rfl) pa_nil)))))))))))))), ?_⟩
    have hnum : ∀ (i : Int) {σ : L2.St} {H : Hp} {te : TE}, EvD te σ H (.int i) → EvD (tCall (spFun (fun d => .bool (isIntD d)) fun _ => True) [] E0 (tCons te tNil)) σ H (.bool true) := fun i σ H te h => ed_call (da_cons h da_nil) (spFun_D (f := fun d => .bool (isIntD d)) trivial)
    cases m with
    | piece h t i m z =>
      obtain ⟨m1, m2, m3, m4, m5, m6⟩ := hm
      refine q_when (b := false) (by walk_at "etr1") (fun z => nomatch z) fun _ H1 e1 => ?_
      have hd1 := hd.ex e1
      refine q_when (b := false) (by walk_at "etr1") (fun z => nomatch z) fun _ H2 e2 => ?_
      have hd2 := hd1.ex e2
      refine q_when (b := false) ?_ (fun z => nomatch z) fun _ H3 e3 => ?_
      · refine et_is (et_not (et_test (ev_all (bs := [true, true]) ?_))) rfl
        refine ed_lcT (ds := [.int h, .int t]) (ed_slT (lo := some 1) (hi := some 3) (ed_var rfl hd2) (eo_some ev_c) (eo_some ev_c) (show ¬ (HT.sIx 6 0 (some 1) = 0 ∧ HT.sIx 6 6 (some 3) = 6) by decide)) (by show 2 ≤ 40000; decide) (fun _ => rfl) (fun _ => true) (fun _ => .bool true) (fun i x dx Hb eb hx h1 => et_yes) (fun i x dx Hb eb hx h1 _ => ?_)
        have hx2 : ∃ j : Int, dx = .int j ∧ 1 ≤ j := by
          match i, h1 with
          | 0, h1 => exact ⟨h, (Option.some.inj h1).symm, m1⟩
          | 1, h1 => exact ⟨t, (Option.some.inj h1).symm, m2⟩
        obtain ⟨j, rfl, hj⟩ := hx2
        have := hx.int_inv
        subst this
        refine ed_bl (ev_is (ev_andV (a := true) (ev_edB (hnum j (ed_var rfl (.int j)))) fun _ => ev_op (ev_var rfl) ev_c rv_I0) ?_)
        simp
        omega
      have hd3 := hd2.ex e3
      refine q_when (b := false) (by walk_at "etr1") (fun z => nomatch z) fun _ H4 e4 => ?_
      have hd4 := hd3.ex e4
      refine q_asgDT (ds := [.int i, .int m, .str z]) (ed_slT (lo := some 3) (hi := none) (ed_var rfl hd4) (eo_some ev_c) eo_none (show ¬ (HT.sIx 6 0 (some 3) = 0 ∧ HT.sIx 6 6 none = 6) by decide)) rfl fun xs H5 e5 hxs => ?_
      have hxs2 : DaAll N0 H5 xs [.int i, .int m, .str z] := hxs
      obtain rfl : xs = [.int i, .int m, .str z] := by
        cases hxs2 with
        | cons a b => cases b with
          | cons b c => cases c with
            | cons c d =>
              cases d
              rw [a.int_inv, b.int_inv, c.str_inv]
      refine g_cons (g_nm (g_cons (g_nm (g_cons (g_nm (g_nil ?_))))))
      refine s_ret (v := .bl true) (ev_is (ev_andV (a := true) (ev_edB (hnum i (ed_var rfl (.int i)))) fun _ => ev_andV (a := true) (ev_edB (hnum m (ed_var rfl (.int m)))) fun _ => ev_andV (b := true) (ev_chain (b := decide ((0:Int) ≤ i)) (c := decide (i < m)) ev_c (ev_var rfl) (rv_I0) (fun _ => ev_var rfl) (fun _ => rv_I0)) fun _ => ev_is (ev_is1 (ed_var rfl (Da.str z))) (by simp [isiB, tyN])) ?_) fun H6 e6 => k _ _ (((((e1.trans e2).trans e3).trans e4).trans e5).trans e6) (.bl _)
      rw [decide_eq_true m3, decide_eq_true m4]
      rfl
    | whole h t =>
      obtain ⟨m1, m2⟩ := hm
      refine q_when (b := false) (by walk_at "etr1") (fun z => nomatch z) fun _ H1 e1 => ?_
      have hd1 := hd.ex e1
      refine q_when (b := false) (by walk_at "etr1") (fun z => nomatch z) fun _ H2 e2 => ?_
      have hd2 := hd1.ex e2
      refine q_when (b := false) ?_ (fun z => nomatch z) fun _ H3 e3 => ?_
      · refine et_is (et_not (et_test (ev_all (bs := [true, true]) ?_))) rfl
        refine ed_lcT (ds := [.int h, .int t]) (ed_slT (lo := some 1) (hi := some 3) (ed_var rfl hd2) (eo_some ev_c) (eo_some ev_c) (show ¬ (HT.sIx 3 0 (some 1) = 0 ∧ HT.sIx 3 3 (some 3) = 3) by decide)) (by show 2 ≤ 40000; decide) (fun _ => rfl) (fun _ => true) (fun _ => .bool true) (fun i x dx Hb eb hx h1 => et_yes) (fun i x dx Hb eb hx h1 _ => ?_)
        have hx2 : ∃ j : Int, dx = .int j ∧ 1 ≤ j := by
          match i, h1 with
          | 0, h1 => exact ⟨h, (Option.some.inj h1).symm, m1⟩
          | 1, h1 => exact ⟨t, (Option.some.inj h1).symm, m2⟩
        obtain ⟨j, rfl, hj⟩ := hx2
        have := hx.int_inv
        subst this
        refine ed_bl (ev_is (ev_andV (a := true) (ev_edB (hnum j (ed_var rfl (.int j)))) fun _ => ev_op (ev_var rfl) ev_c rv_I0) ?_)
        simp
        omega
      have hd3 := hd2.ex e3
      refine q_when (b := true) (by walk_at "etr1") (fun _ H4 e4 => ?_) (fun z => nomatch z)
      exact s_ret (v := .bl true) ev_c fun H6 e6 => k _ _ ((((e1.trans e2).trans e3).trans e4).trans e6) (.bl _)
    | go h t =>
      obtain ⟨m1, m2⟩ := hm
      refine q_when (b := false) (by walk_at "etr1") (fun z => nomatch z) fun _ H1 e1 => ?_
      have hd1 := hd.ex e1
      refine q_when (b := false) (by walk_at "etr1") (fun z => nomatch z) fun _ H2 e2 => ?_
      have hd2 := hd1.ex e2
      refine q_when (b := false) ?_ (fun z => nomatch z) fun _ H3 e3 => ?_
      · refine et_is (et_not (et_test (ev_all (bs := [true, true]) ?_))) rfl
        refine ed_lcT (ds := [.int h, .int t]) (ed_slT (lo := some 1) (hi := some 3) (ed_var rfl hd2) (eo_some ev_c) (eo_some ev_c) (show ¬ (HT.sIx 3 0 (some 1) = 0 ∧ HT.sIx 3 3 (some 3) = 3) by decide)) (by show 2 ≤ 40000; decide) (fun _ => rfl) (fun _ => true) (fun _ => .bool true) (fun i x dx Hb eb hx h1 => et_yes) (fun i x dx Hb eb hx h1 _ => ?_)
        have hx2 : ∃ j : Int, dx = .int j ∧ 1 ≤ j := by
          match i, h1 with
          | 0, h1 => exact ⟨h, (Option.some.inj h1).symm, m1⟩
          | 1, h1 => exact ⟨t, (Option.some.inj h1).symm, m2⟩
        obtain ⟨j, rfl, hj⟩ := hx2
        have := hx.int_inv
        subst this
        refine ed_bl (ev_is (ev_andV (a := true) (ev_edB (hnum j (ed_var rfl (.int j)))) fun _ => ev_op (ev_var rfl) ev_c rv_I0) ?_)
        simp
        omega
      have hd3 := hd2.ex e3
      refine q_when (b := true) (by walk_at "etr1") (fun _ H4 e4 => ?_) (fun z => nomatch z)
      exact s_ret (v := .bl true) ev_c fun H6 e6 => k _ _ ((((e1.trans e2).trans e3).trans e4).trans e6) (.bl _)
    | going h t =>
      obtain ⟨m1, m2⟩ := hm
      refine q_when (b := false) (by walk_at "etr1") (fun z => nomatch z) fun _ H1 e1 => ?_
      have hd1 := hd.ex e1
      refine q_when (b := false) (by walk_at "etr1") (fun z => nomatch z) fun _ H2 e2 => ?_
      have hd2 := hd1.ex e2
      refine q_when (b := false) ?_ (fun z => nomatch z) fun _ H3 e3 => ?_
      · refine et_is (et_not (et_test (ev_all (bs := [true, true]) ?_))) rfl
        refine ed_lcT (ds := [.int h, .int t]) (ed_slT (lo := some 1) (hi := some 3) (ed_var rfl hd2) (eo_some ev_c) (eo_some ev_c) (show ¬ (HT.sIx 3 0 (some 1) = 0 ∧ HT.sIx 3 3 (some 3) = 3) by decide)) (by show 2 ≤ 40000; decide) (fun _ => rfl) (fun _ => true) (fun _ => .bool true) (fun i x dx Hb eb hx h1 => et_yes) (fun i x dx Hb eb hx h1 _ => ?_)
        have hx2 : ∃ j : Int, dx = .int j ∧ 1 ≤ j := by
          match i, h1 with
          | 0, h1 => exact ⟨h, (Option.some.inj h1).symm, m1⟩
          | 1, h1 => exact ⟨t, (Option.some.inj h1).symm, m2⟩
        obtain ⟨j, rfl, hj⟩ := hx2
        have := hx.int_inv
        subst this
        refine ed_bl (ev_is (ev_andV (a := true) (ev_edB (hnum j (ed_var rfl (.int j)))) fun _ => ev_op (ev_var rfl) ev_c rv_I0) ?_)
        simp
        omega
      have hd3 := hd2.ex e3
      refine q_when (b := true) (by walk_at "etr1") (fun _ H4 e4 => ?_) (fun z => nomatch z)
      exact s_ret (v := .bl true) ev_c fun H6 e6 => k _ _ ((((e1.trans e2).trans e3).trans e4).trans e6) (.bl _)
end
end Rel
end
section
open PySem PySem.Spec PyProof.Rows L2 Evl Rel
local macro_rules | `(tactic| walk_at "hp") => `(tactic| first | assumption | exact upd_same)
local macro_rules | `(tactic| walk_at "mem") => `(tactic| first | exact List.Mem.head _ | exact List.Mem.tail _ (List.Mem.head _) | exact List.Mem.tail _ (List.Mem.tail _ (List.Mem.head _)) | exact List.Mem.tail _ (List.Mem.tail _ (List.Mem.tail _ (List.Mem.head _))))
local macro_rules | `(tactic| walk_at "rc") => `(tactic| first | exact rc_int1 | exact rc_intB | exact rc_abs | exact rc_lenL (sq_of (by assumption)) | exact rc_lenT (st_of (by assumption)) | exact rc_lenL (by assumption) | exact rc_lenT (by assumption))
local macro_rules | `(tactic| walk_at "rv") => `(tactic| first | exact rv_I0 | (refine' rv_I ?_; omega) | (refine' rv_I ?_; first | exact ⟨by omega, by omega⟩ | exact .inl ⟨by omega, by omega⟩ | exact .inr ⟨by omega, by omega⟩) | exact rv_ixL (sq_of (by assumption)) rfl | exact rv_ixL (by assumption) rfl | exact rv_ixT (st_of (by assumption)) rfl | exact rv_ixT (by assumption) rfl | exact rv_eq rfl | exact rv_ne rfl)
local macro_rules | `(tactic| walk_at "ed") => `(tactic| first
  | exact ed_var rfl (by assumption)
  | exact ed_ev (ev_var rfl) (.int _)
  | exact ed_ev (ev_var rfl) (.str _)
  | exact ed_ev ev_c .non
  | exact ed_ev ev_c (.bl _)
  | exact ed_ev ev_c (.int _)
  | exact ed_ev ev_c (.str _)
  | (apply ed_ixT; walk_at "ed"; exact ev_c; rfl; rfl)
  | (apply ed_ixL; walk_at "ed"; exact ev_c; rfl; rfl)
  | (apply ed_tup; walk_at "da"; exact of_decide_eq_true rfl)
  | (apply ed_lst; walk_at "da"; exact of_decide_eq_true rfl))
local macro_rules | `(tactic| walk_at "da") => `(tactic| first
  | exact da_nil
  | (apply da_cons; walk_at "ed"; walk_at "da"))
local macro_rules | `(tactic| walk_at "ev") => `(tactic| first
  | exact ev_c
  | (apply ev_is1; walk_at "ed"; simp)
  | (apply ev_is2; walk_at "ed"; simp; simp)
  | (apply ev_ninC; walk_at "ev"; exact ev_c; walk_at "mem")
  | (apply ev_ixC; exact ev_c; walk_at "ev"; walk_at "mem")
  | (apply ev_edI; apply ed_ixT; walk_at "ed"; exact ev_c; rfl; rfl)
  | (apply ev_edS; apply ed_ixT; walk_at "ed"; exact ev_c; rfl; rfl)
  | (apply ev_chain; walk_at "ev"; walk_at "ev"; walk_at "rv"; (intro _; walk_at "ev"); (intro _; walk_at "rv"))
  | (apply ev_notV; walk_at "ev")
  | (apply ev_andV; walk_at "ev"; (intro _; walk_at "ev"))
  | exact ev_lenL (ed_var rfl (by assumption))
  | (apply ev_edB; apply ed_call; walk_at "da"; apply spFun_D; first | trivial | assumption)
  | exact ev_lenT (ed_var rfl (by assumption))
  | (apply ev_isND; walk_at "ed")
  | (apply ev_notND; walk_at "ed")
  | (apply ev_isN; walk_at "ev")
  | (apply ev_notN; walk_at "ev")
  | exact ev_var rfl
  | (apply ev_op; walk_at "ev"; walk_at "ev"; walk_at "rv")
  | (apply ev_un; walk_at "ev"; exact ru_neg)
  | (apply ev_cb; walk_at "ea"; walk_at "rc"))
local macro_rules | `(tactic| walk_at "ea") => `(tactic| first
  | exact ea_nil
  | (apply ea_cons; walk_at "ev"; walk_at "ea"))
local macro_rules | `(tactic| walk_at "et") => `(tactic| first
  | (apply et_test; walk_at "ev")
  | (apply et_B; walk_at "ev")
  | (apply et_or; walk_at "et"; (intro _; walk_at "et"))
  | (apply et_and; walk_at "et"; (intro _; walk_at "et"))
  | (apply et_not; walk_at "et"))
local macro_rules | `(tactic| walk_at "evr") => `(tactic| (apply ev_is; walk_at "ev"; rfl))
local macro_rules | `(tactic| walk_at "etr") => `(tactic| (first | apply et_B | apply et_test); (apply ev_is; walk_at "ev"; rfl))
local macro_rules | `(tactic| walk_at "evs") => `(tactic| (apply ev_is; walk_at "ev"; simp [isiB, tyN]))
local macro_rules | `(tactic| walk_at "ets") => `(tactic| (apply et_is; walk_at "et"; simp [isiB, tyN]))
local macro_rules | `(tactic| walk_at "etr1") => `(tactic| (apply et_is; walk_at "et"; rfl))
local macro_rules | `(tactic| walk_at "rv") => `(tactic| first | exact rv_eq (scal_iO _ _) | exact rv_ne (scal_iO _ _) | exact rv_eq (scal_Oi _ _) | exact rv_ne (scal_Oi _ _))
local macro_rules | `(tactic| walk_at "etk") => `(tactic| (apply et_is; walk_at "et"; kernel_rfl))
local macro_rules | `(tactic| walk_at "fl") => `(tactic| first
  | (apply ev_fld (hn := (‹Txt _ _ _›).oHost_own_number) (hl := fl_number); exact ev_var rfl; (first | assumption | exact HA.p_ (by assumption)); exact (‹Txt _ _ _›).cHost)
  | (apply ev_fld (hn := (‹Txt _ _ _›).oHost_own_phase) (hl := fl_phase); exact ev_var rfl; (first | assumption | exact HA.p_ (by assumption)); exact (‹Txt _ _ _›).cHost)
  | (apply ev_fld (hn := (‹Txt _ _ _›).oHost_own_hop) (hl := fl_hop); exact ev_var rfl; (first | assumption | exact HA.p_ (by assumption)); exact (‹Txt _ _ _›).cHost)
  | (apply ev_fld (hn := (‹Txt _ _ _›).oHost_own_try) (hl := fl_try); exact ev_var rfl; (first | assumption | exact HA.p_ (by assumption)); exact (‹Txt _ _ _›).cHost)
  | (apply ev_fld (hn := (‹Txt _ _ _›).oHost_own_text) (hl := fl_text); exact ev_var rfl; (first | assumption | exact HA.p_ (by assumption)); exact (‹Txt _ _ _›).cHost)
  | (apply ev_fld (hn := (‹Txt _ _ _›).oHost_own_goal) (hl := fl_goal); exact ev_var rfl; (first | assumption | exact HA.p_ (by assumption)); exact (‹Txt _ _ _›).cHost)
  | (apply ev_fld (hn := (‹Txt _ _ _›).oHost_own_pieces) (hl := fl_pieces); exact ev_var rfl; (first | assumption | exact HA.p_ (by assumption)); exact (‹Txt _ _ _›).cHost)
  | (apply ev_fld (hn := (‹Txt _ _ _›).oHost_own_taken) (hl := fl_taken); exact ev_var rfl; (first | assumption | exact HA.p_ (by assumption)); exact (‹Txt _ _ _›).cHost)
  | (apply ev_fld (hn := (‹Txt _ _ _›).oHost_own_from) (hl := fl_from); exact ev_var rfl; (first | assumption | exact HA.p_ (by assumption)); exact (‹Txt _ _ _›).cHost)
  | (apply ev_fld (hn := (‹Txt _ _ _›).oHost_own_many) (hl := fl_many); exact ev_var rfl; (first | assumption | exact HA.p_ (by assumption)); exact (‹Txt _ _ _›).cHost)
  | (apply ev_fld (hn := (‹Txt _ _ _›).oHost_own_came) (hl := fl_came); exact ev_var rfl; (first | assumption | exact HA.p_ (by assumption)); exact (‹Txt _ _ _›).cHost))
local macro_rules | `(tactic| walk_at "ev") => `(tactic| walk_at "fl")
namespace Rel
open PySem PySem.Spec PyProof.Rows L2 Evl
structure PcA where
  snd : Int
  v : V
  h : Int
  n : Int
  i : Int
  m : Int
  z : Str
section
variable {P : Program} {w : World} {K : PySem.W.Frag} {mg : Str → Option Value} {base : Heap}
theorem ok_Host_take_piece {f : Addr} {fd : FuncData} (F : FnP K "take_piece" "Host.take_piece" sHost_take_piece f fd) (T : Txt K mg w)
    (FHost_leave : Mx P w K mg base CX0 T.aHost "leave" ["self"] 1 (spM T.aHost Unit (fun _ => []) (fun _ _ _ => True) (fun _ s => s.left) fun _ _ => .non)) : FnOk P w K mg base CX0 2 f fd ["self", "sender", "message"]
    (spM T.aHost PcA (fun a => [.int a.snd, a.v]) (fun a s H => Da N0 H a.v (Msg.piece a.h a.n a.i a.m a.z).d ∧ s.taken.length < 100000) (fun a s => s.takePiece a.snd a.h a.n a.i a.m a.z) fun _ _ => .non) := by
  refine F.ok scHost_take_piece (fun vs H Q E h => ?_) (fun cdv A outer s H vs Q E hr h => ?_)
  · obtain ⟨_, _, _, _, _, rfl, _⟩ := h
    rfl
  · obtain ⟨⟨snd, v, h, n, i, m, z⟩, p, td, pl, s, rfl, hh, ⟨hv, hlen⟩, k⟩ := h
    obtain ⟨dx, cm, h0⟩ := hh.ha
    have nd := scHost_take_piece.nd
    replace hv : Da N0 H v (.tuple [.str "piece", .int h, .int n, .int i, .int m, .str z]) := hv
    refine ⟨_, PSs.nox (pss_cons (ps_asg (pe_slice (ks_tup (K := K) rfl) (pv 2) (po_some pe_int) po_none) (pg_tup rfl (pgs_cons (pg_name (i := 3) nd rfl (Or.inl rfl)) (pgs_cons (pg_name (i := 4) nd rfl (Or.inl rfl)) (pgs_cons (pg_name (i := 5) nd rfl (Or.inl rfl)) (pgs_cons (pg_name (i := 6) nd rfl (Or.inl rfl)) (pgs_cons (pg_name (i := 7) nd rfl (Or.inl rfl)) pgs_nil)))))))
  (pss_cons (ps_if (PW.pt (pw_and (pt_cmpR op_eq (pe_fldK (K := K) rfl (pv 0) rfl) (pe_glob (v := .str "given") rfl T.gGIVEN_relay ⟨_, rfl⟩) (nomark _)) (pw_and1 (pt_cmpR op_gt (pv 3) (pe_op op_add (pe_fldK (K := K) rfl (pv 0) rfl) pe_int) (nomark _))))) (pss_one (ps_expr (pe_meth0 (pv 0) T.cHost FHost_leave.m FHost_leave.ok (hr.mono (by first | decide | omega)) FHost_leave.b .nil pass0))) pss_nil)
  (pss_cons (ps_if (PW.pt (pw_or (pt_cmpR op_ne (pe_fldK (K := K) rfl (pv 0) rfl) (pe_glob (v := .str "away") rfl T.gAWAY ⟨_, rfl⟩) (nomark _)) (pw_or (pt_cmpR op_lt (pv 3) (pe_fldK (K := K) rfl (pv 0) rfl) (nomark _)) (pw_or1 (PW.pt (pw_and (pt_cmpR op_eq (pv 3) (pe_fldK (K := K) rfl (pv 0) rfl) (nomark _)) (pw_and1 (pt_cmp (pc_isN (pe_fldK (K := K) rfl (pv 0) rfl)) rfl)))))))) (pss_one ps_retN) pss_nil)
  (pss_cons (ps_if (PW.pt (pw_and (pt_cmpR op_eq (pv 3) (pe_fldK (K := K) rfl (pv 0) rfl) (nomark _)) (pw_and1 (PW.pt (pw_or (pt_cmpR op_lt (pv 4) (pe_fldK (K := K) rfl (pv 0) rfl) (nomark _)) (pw_or1 (PW.pt (pw_and (pt_cmpR op_eq (pv 4) (pe_fldK (K := K) rfl (pv 0) rfl) (nomark _)) (pw_and1 (pt_cmpR op_ne (pv 1) (pe_fldK (K := K) rfl (pv 0) rfl) (nomark _))))))))))) (pss_one ps_retN) pss_nil)
  (pss_cons (ps_if (pt_cmpR (ko_neD (K := K) rfl hr.units) (pe_tup (pa_cons (pv 3) (pa_cons (pv 4) (pa_cons (pv 1) pa_nil)))) (pe_tup (pa_cons (pe_fldK (K := K) rfl (pv 0) rfl) (pa_cons (pe_fldK (K := K) rfl (pv 0) rfl) (pa_cons (pe_fldK (K := K) rfl (pv 0) rfl) pa_nil)))) (nomark _)) (pss_cons (ps_asg (pe_tup (pa_cons (pv 3) (pa_cons (pv 4) (pa_cons (pv 1) pa_nil)))) (pg_tup rfl (pgs_cons (pg_fld (pv 0)) (pgs_cons (pg_fld (pv 0)) (pgs_cons (pg_fld (pv 0)) pgs_nil)))))
  (pss_one (ps_asg (pe_tup (pa_cons pe_dnewK (pa_cons (pv 6) pa_nil))) (pg_tup rfl (pgs_cons (pg_fld (pv 0)) (pgs_cons (pg_fld (pv 0)) pgs_nil)))))) pss_nil)
  (pss_one (ps_if (PW.pt (pw_and (pt_cmp (pc_dnotin (hu1 hr.units) (pv 5) (pe_fldK (K := K) rfl (pv 0) rfl))) (pw_and1 (pt_cmpR op_eq (pv 6) (pe_fldK (K := K) rfl (pv 0) rfl) (nomark _))))) (pss_one (ps_dput (hu1 hr.units) (pe_fldK (K := K) rfl (pv 0) rfl) (pv 5) (pv 7) rfl)) pss_nil))))))), ?_⟩
    refine q_asgDT (ds := [.int h, .int n, .int i, .int m, .str z]) (ed_slT (lo := some 1) (hi := none) (ed_var rfl hv) (eo_some ev_c) eo_none (show ¬ (HT.sIx 6 0 (some 1) = 0 ∧ HT.sIx 6 6 none = 6) by decide)) rfl fun xs H1 e1 hxs => ?_
    have hxs2 : DaAll N0 H1 xs [.int h, .int n, .int i, .int m, .str z] := hxs
    obtain rfl : xs = [.int h, .int n, .int i, .int m, .str z] := by
      cases hxs2 with
      | cons a b => cases b with
        | cons b c => cases c with
          | cons c d => cases d with
            | cons d e => cases e with
              | cons e g =>
                cases g
                rw [a.int_inv, b.int_inv, c.int_inv, d.int_inv, e.str_inv]
    refine g_cons (g_nm (g_cons (g_nm (g_cons (g_nm (g_cons (g_nm (g_cons (g_nm (g_nil ?_))))))))))
    have h1 := h0.ex e1
    have hT : (if s.phase = "given" ∧ s.hop + 1 < h then s.left else s).taken = s.taken := by split <;> rfl
    have hE : s.takePiece snd h n i m z = s.takePiece snd h n i m z := rfl
    conv at hE => rhs; unfold HostS.takePiece
    refine q_whenC (b := decide (s.phase = "given" ∧ s.hop + 1 < h)) (fun H' => ∃ dx2 cm2 td2 pl2, Way T.aHost dx2 H p td pl H' td2 pl2 cm2 (if s.phase = "given" ∧ s.hop + 1 < h then s.left else s)) ?_ (fun c1 H2 e2 N q => ?_) (fun c1 H2 e2 => ?_) fun H2 ⟨dx2, cm2, td2, pl2, w2⟩ => ?_
    · apply et_is; walk_at "et"
      rw [Bool.eq_iff_iff]; simp
    · have h2 := h1.ex e2
      refine ⟨_, rfl, p, dx, _, rfl, h2.p_, fl_no (by simp), (), p, td, pl, s, rfl, h2.host, trivial, fun td' pl' H' hh' ht hp fr => q H' ?_⟩
      obtain ⟨dx2, cm2, w2⟩ := (((Way.of h0).ex e1).ex e2).call hh' ht hp fr fun b hb => fresh_back (e1.trans e2) hb
      rw [if_pos (of_decide_eq_true c1)]
      exact ⟨dx2, cm2, td', pl', w2⟩
    · rw [if_neg (of_decide_eq_false c1)]
      exact ⟨dx, cm, td, pl, ((Way.of h0).ex e1).ex e2⟩
    generalize (if s.phase = "given" ∧ s.hop + 1 < h then s.left else s) = s1 at w2 hE hT
    dsimp only at hE
    have a2 := w2.at_
    refine q_when (b := decide (¬ s1.phase = "away" ∨ h < s1.hop ∨ (h = s1.hop ∧ s1.frm = none))) ?_ (fun c2 H3 e3 => ?_) (fun c2 H3 e3 => ?_)
    · apply et_is; walk_at "et"
      rw [Bool.eq_iff_iff]; simp [oI_non]
    · have w3 := w2.ex e3
      rw [if_pos (of_decide_eq_true c2)] at hE
      exact k td2 pl2 H3 (by show HostAt _ _ _ _ _ (s.takePiece snd h n i m z); rw [hE]; exact w3.at_.host) w3.td_ w3.pl_ w3.fr
    rw [if_neg (of_decide_eq_false c2)] at hE
    have w3 := w2.ex e3
    have a3 := w3.at_
    clear a2
    refine q_when (b := decide (h = s1.hop ∧ (n < s1.tri ∨ (n = s1.tri ∧ ¬ s1.frm = some snd)))) ?_ (fun c3 H4 e4 => ?_) (fun c3 H4 e4 => ?_)
    · apply et_is; walk_at "et"
      rw [Bool.eq_iff_iff]; simp [oI_int]
    · have w4 := w3.ex e4
      rw [if_pos (of_decide_eq_true c3)] at hE
      exact k td2 pl2 H4 (by show HostAt _ _ _ _ _ (s.takePiece snd h n i m z); rw [hE]; exact w4.at_.host) w4.td_ w4.pl_ w4.fr
    rw [if_neg (of_decide_eq_false c3)] at hE
    have w4 := w3.ex e4
    have a4 := w4.at_
    clear a3
    refine q_whenC (b := !decide (h = s1.hop ∧ n = s1.tri ∧ s1.frm = some snd)) (fun H' => ∃ td3 pl3, Way T.aHost dx2 H p td pl H' td3 pl3 cm2 (if ¬ (h = s1.hop ∧ n = s1.tri ∧ s1.frm = some snd) then { s1 with hop := h, tri := n, frm := some snd, taken := [], many := m } else s1)) ?_ (fun c4 H5 e5 N q => ?_) (fun c4 H5 e5 => ?_) fun H5 ⟨td3, pl3, w5⟩ => ?_
    · refine et_is (et_test (ev_neD (d := .tuple [.int h, .int n, .int snd]) (d' := .tuple [.int s1.hop, .int s1.tri, oID s1.frm]) (by walk_at "ed") ?_ rfl (by cases s1.frm <;> rfl))) ?_
      · exact ed_tup (da_cons (ed_ev (by walk_at "ev") (.int _)) (da_cons (ed_ev (by walk_at "ev") (.int _)) (da_cons (ed_ev (by walk_at "ev") (oI_da _)) da_nil))) (of_decide_eq_true rfl)
      · rw [eqv3]
    · have w5 := w4.ex e5
      refine q_asgT (ea_cons (ev_var rfl) (ea_cons (ev_var rfl) (ea_cons (ev_var rfl) ea_nil))) rfl (by show 3 ≤ 1000; decide) fun H6 e6 => ?_
      have w6 := w5.ex e6
      refine g_cons (gH_hop T.cHost T.oHost_own_hop (ev_var rfl) w6.at_ fun H7 h7 b7 => g_cons (gH_try T.cHost T.oHost_own_try (ev_var rfl) h7 fun H8 h8 b8 => g_cons (gH_from (z := some snd) T.cHost T.oHost_own_from (ev_var rfl) h8 fun H9 h9 b9 => g_nil ?_)))
      have w9 := ((w6.put h7 b7).put h8 b8).put h9 b9
      refine fun t ht => ⟨_, rfl, by show 2 ≤ sizeLine; decide, fun U hU => ⟨U, _, rfl, st_of upd_same, rfl, ?_⟩⟩
      have e10 : Ex H9 (upd (upd H9 t (.dK [])) U (.tup [.ref t, .int m])) := (Ex.new ht).trans (Ex.new hU)
      have ht2 : (upd (upd H9 t (.dK [])) U (.tup [.ref t, .int m])) t = some (.dK ([].map keyT)) := Ex.new hU _ _ upd_same
      generalize upd (upd H9 t (.dK [])) U (.tup [.ref t, .int m]) = H10 at e10 ht2 ⊢
      refine g_cons (gH_taken (zs := []) T.cHost T.oHost_own_taken (ev_var rfl) (w9.ex e10).at_ ht2 fun H11 h11 b11 => g_cons (gH_many T.cHost T.oHost_own_many (ev_var rfl) h11 fun H12 h12 b12 => g_nil (q _ ?_)))
      rw [if_pos (by rw [Bool.not_eq_true', decide_eq_false_iff_not] at c4; exact c4)]
      exact ⟨t, pl2, (w9.swapT ht e10 h11 b11).put h12 b12⟩
    · rw [if_neg (by rw [Bool.not_eq_false', decide_eq_true_iff] at c4; exact fun q => q c4)]
      exact ⟨td2, pl2, w4.ex e5⟩
    have hL : (if ¬ (h = s1.hop ∧ n = s1.tri ∧ s1.frm = some snd) then { s1 with hop := h, tri := n, frm := some snd, taken := [], many := m } else s1).taken.length < 100000 := by
      split
      · show 0 < 100000; decide
      · rw [hT]; exact hlen
    generalize (if ¬ (h = s1.hop ∧ n = s1.tri ∧ s1.frm = some snd) then { s1 with hop := h, tri := n, frm := some snd, taken := [], many := m } else s1) = s2 at w5 hE hL
    have a5 := w5.at_
    clear a4
    refine s_when (b := decide (s2.taken.lookup i = none ∧ m = s2.many)) ?_ (fun c5 H6 e6 => ?_) (fun c5 H6 e6 => ?_)
    · refine et_is (et_and (et_test (ev_dnot (k := Sum.inl i) (ev_var rfl) (by walk_at "ev") a5.t_)) fun _ => (by walk_at "et")) ?_
      rw [valT, Bool.eq_iff_iff]
      cases s2.taken.lookup i <;> simp
    · have w6 := w5.ex e6
      have a6 := w6.at_
      obtain ⟨c5, c6⟩ := of_decide_eq_true c5
      rw [if_pos ⟨c5, c6⟩] at hE
      refine s_dput (k := Sum.inl i) (ev_var rfl) (by walk_at "ev") (ev_var rfl) a6.t_ (by rw [List.length_map]; exact hL) fun H7 h7 b7 => ?_
      rw [putT c5] at h7
      have w7 := w6.putT h7 b7
      exact k td3 pl3 H7 (by show HostAt _ _ _ _ _ (s.takePiece snd h n i m z); rw [hE]; exact w7.at_.host) w7.td_ w7.pl_ w7.fr
    · have w6 := w5.ex e6
      rw [if_neg (of_decide_eq_false c5)] at hE
      exact k td3 pl3 H6 (by show HostAt _ _ _ _ _ (s.takePiece snd h n i m z); rw [hE]; exact w6.at_.host) w6.td_ w6.pl_ w6.fr
structure GoA where
  snd : Int
  v : V
  h : Int
  n : Int
theorem ok_Host_take_go {f : Addr} {fd : FuncData} (F : FnP K "take_go" "Host.take_go" sHost_take_go f fd) (T : Txt K mg w)
    (FHost_is_whole : Mx P w K mg base CX0 T.aHost "is_whole" ["self"] 1 (spGet T.aHost fun s => .bl s.whole)) : FnOk P w K mg base CX0 2 f fd ["self", "sender", "message"]
    (spM T.aHost GoA (fun a => [.int a.snd, a.v]) (fun a s H => Da N0 H a.v (Msg.go a.h a.n).d ∧ s.Ok) (fun a s => s.takeGo a.snd a.h a.n) fun _ _ => .non) := by
  refine F.ok scHost_take_go (fun vs H Q E h => ?_) (fun cdv A outer s H vs Q E hr h => ?_)
  · obtain ⟨_, _, _, _, _, rfl, _⟩ := h
    rfl
  · obtain ⟨⟨snd, v, h, n⟩, p, td, pl, s, rfl, hh, ⟨hv, hok⟩, k⟩ := h
    obtain ⟨dx, cm, h0⟩ := hh.ha
    have nd := scHost_take_go.nd
    replace hv : Da N0 H v (.tuple [.str "go", .int h, .int n]) := hv
    refine ⟨_, PSs.nox (pss_cons (ps_set (i := 3) nd rfl (Or.inl rfl) (pe_cmpR (ko_eqD (K := K) rfl hr.units) (pe_tup (pa_cons (pe_ix (kx_tup (K := K) rfl) (pv 2) pe_int (fun _ _ => rfl)) (pa_cons (pe_ix (kx_tup (K := K) rfl) (pv 2) pe_int (fun _ _ => rfl)) (pa_cons (pv 1) pa_nil)))) (pe_tup (pa_cons (pe_fldK (K := K) rfl (pv 0) rfl) (pa_cons (pe_fldK (K := K) rfl (pv 0) rfl) (pa_cons (pe_fldK (K := K) rfl (pv 0) rfl) pa_nil)))) (nomark _)))
  (pss_one (ps_if (PW.pt (pw_and (pt_cmpR op_eq (pe_fldK (K := K) rfl (pv 0) rfl) (pe_glob (v := .str "away") rfl T.gAWAY ⟨_, rfl⟩) (nomark _)) (pw_and (pt_val (pv 3)) (pw_and1 (pt_val (pe_meth0 (pv 0) T.cHost FHost_is_whole.m FHost_is_whole.ok (hr.mono (by first | decide | omega)) FHost_is_whole.b .nil pass0)))))) (pss_cons (ps_fld (pv 0) (kpe_join (K := K) rfl pe_str (pe_lc (own := [("index", 4)]) rfl nd (pi_range1 rfl T.n_range (pa_cons (pe_fldK (K := K) rfl (pv 0) rfl) pa_nil)) (blkOk_by (N := nHost_take_go) (sc := defScope sHost_take_go) (by decide +kernel)) (fun _ _ _ _ _ => (pg_name (i := 4) nd rfl (Or.inl rfl))) (fun _ _ _ _ _ => pts_nil) (fun _ _ _ _ _ => (pe_dget (hu1 hr.units) (pe_fldK (K := K) rfl (pv 0) rfl) (pv 4) (fun _ _ => rfl))))) rfl)
  (pss_cons (ps_asg (pe_tup (pa_cons (pe_tup (pa_cons (pe_fldK (K := K) rfl (pv 0) rfl) (pa_cons (pe_tup (pa_cons (pe_glob (v := .str "going") rfl T.gGOING_relay ⟨_, rfl⟩) (pa_cons (pe_fldK (K := K) rfl (pv 0) rfl) (pa_cons (pe_fldK (K := K) rfl (pv 0) rfl) pa_nil)))) pa_nil))) (pa_cons pe_non pa_nil))) (pg_tup rfl (pgs_cons (pg_fld (pv 0)) (pgs_cons (pg_fld (pv 0)) pgs_nil))))
  (pss_one (ps_asg (pe_tup (pa_cons (pe_glob (v := .str "runs") rfl T.gRUNS_relay ⟨_, rfl⟩) (pa_cons pe_int (pa_cons pe_dnewK pa_nil)))) (pg_tup rfl (pgs_cons (pg_fld (pv 0)) (pgs_cons (pg_fld (pv 0)) (pgs_cons (pg_fld (pv 0)) pgs_nil)))))))) pss_nil))), ?_⟩
    refine q_asg (v := .bl (decide (h = s.hop ∧ n = s.tri ∧ s.frm = some snd))) (ev_is (ev_eqD (d := .tuple [.int h, .int n, .int snd]) (d' := .tuple [.int s.hop, .int s.tri, oID s.frm]) ?_ ?_ rfl (by cases s.frm <;> rfl)) ?_) fun H1 e1 => ?_
    · exact ed_tup (da_cons (ed_ixT (ed_var rfl hv) ev_c rfl rfl) (da_cons (ed_ixT (ed_var rfl hv) ev_c rfl rfl) (da_cons (ed_ev (ev_var rfl) (.int _)) da_nil))) (of_decide_eq_true rfl)
    · exact ed_tup (da_cons (ed_ev (by walk_at "ev") (.int _)) (da_cons (ed_ev (by walk_at "ev") (.int _)) (da_cons (ed_ev (by walk_at "ev") (oI_da _)) da_nil))) (of_decide_eq_true rfl)
    · rw [eqv3]
    have w1 := (Way.of h0).ex e1
    have h1 := h0.ex e1
    refine s_when (b := decide (s.phase = "away" ∧ (h = s.hop ∧ n = s.tri ∧ s.frm = some snd) ∧ s.whole = true)) ?_ (fun c H2 e2 => ?_) (fun c H2 e2 => ?_)
    · refine et_is (et_and (by walk_at "et") fun _ => et_and (et_B (ev_var rfl)) fun _ => et_B (ev_get (f := fun s => .bl s.whole) (ev_var rfl) h1.host)) ?_
      rw [Bool.eq_iff_iff]; simp
    · have w2 := w1.ex e2
      have a2 := w2.at_
      replace c := of_decide_eq_true c
      obtain ⟨c1, ⟨c2, c3, c4⟩, c5⟩ := c
      have cm5 : 0 < s.many ∧ (s.taken.length : Int) = s.many := by
        unfold HostS.whole at c5
        simpa [c4] using c5
      have hsm := hok.small.1
      refine qH_text (z := some s.joined) T.cHost T.oHost_own_text ?_ (ev_var rfl) a2 fun H3 h3 b3 => ?_
      · refine ev_join (a := Str.empty) (zs := (List.range s.many.toNat).map fun (i : Nat) => (s.taken.lookup (i : Int)).getD Str.empty) ev_c ?_ ?_
        · have e : (.list (((List.range s.many.toNat).map fun (i : Nat) => (s.taken.lookup (i : Int)).getD Str.empty).map PyData.str) : PyData) = .list (givenD s.many.toNat (fun _ => true) fun i => .str ((s.taken.lookup (i : Int)).getD Str.empty)) := by rw [givenD_all, List.map_map]; rfl
          rw [e]
          refine ed_lcR (n := s.many) (ea_cons (by walk_at "ev") ea_nil) (by omega) (fun _ => rfl) _ _ (fun i hi => et_yes) (fun i hi _ => ?_)
          obtain ⟨z, hz, _⟩ := hok.all cm5.2 i hi
          rw [hz]
          exact ed_ev (ev_dget (k := Sum.inl (i : Int)) (by walk_at "ev") (ev_var rfl) a2.t_ (by rw [valT, hz]; rfl)) (.str _)
        · have h1 : ∀ x ∈ (List.range s.many.toNat).map fun (i : Nat) => (s.taken.lookup (i : Int)).getD Str.empty, x.length ≤ 1000 := fun x hx => by
            obtain ⟨i, hi, rfl⟩ := List.mem_map.mp hx
            obtain ⟨z, hz, hl⟩ := hok.all cm5.2 i (by have := List.mem_range.mp hi; omega)
            rw [hz]; exact hl
          have h2 := sum_len h1
          rw [List.length_map, List.length_range] at h2 ⊢
          have : (Str.empty).length = 0 := rfl
          rw [this]
          omega
      have w3 := w2.put h3 b3
      refine q_asgDV (d := cameD (some (snd, s.hop, s.tri))) (y := .non) ?_ ev_c fun x H4 e4 hx => ?_
      · refine ed_tup (da_cons (ed_ev (v := oI s.frm) (by walk_at "evr") (by rw [c4]; exact .int _)) (da_cons (ed_tup (da_cons (ed_ev ev_c (.str _)) (da_cons (ed_ev (v := .int s.hop) (by walk_at "evr") (.int _)) (da_cons (ed_ev (v := .int s.tri) (by walk_at "evr") (.int _)) da_nil))) (of_decide_eq_true rfl)) da_nil)) (of_decide_eq_true rfl)
      have w4 := w3.ex e4
      refine g_cons (gH_came (zs := some (snd, s.hop, s.tri)) T.cHost T.oHost_own_came (ev_var rfl) w4.at_ hx fun H5 h5 b5 => g_cons (gH_from (z := none) T.cHost T.oHost_own_from (ev_var rfl) h5 fun H6 h6 b6 => g_nil ?_))
      have w6 := (w4.put h5 b5).put h6 b6
      refine fun t ht => ⟨by show 3 ≤ sizeLine; decide, fun U hU => ⟨U, _, rfl, st_of upd_same, rfl, ?_⟩⟩
      have e10 : Ex H6 (upd (upd H6 t (.dK [])) U (.tup [.str "runs", .int 0, .ref t])) := (Ex.new ht).trans (Ex.new hU)
      have ht2 : (upd (upd H6 t (.dK [])) U (.tup [.str "runs", .int 0, .ref t])) t = some (.dK ([].map keyT)) := Ex.new hU _ _ upd_same
      generalize upd (upd H6 t (.dK [])) U (.tup [.str "runs", .int 0, .ref t]) = H10 at e10 ht2 ⊢
      have w10 := w6.ex e10
      have ht3 : t ≠ p := by rintro rfl; rw [w6.at_.p_] at ht; cases ht
      refine g_cons (gH_phase (z := "runs") T.cHost T.oHost_own_phase (ev_var rfl) w10.at_ fun H11 h11 b11 => g_cons (gH_try T.cHost T.oHost_own_try (ev_var rfl) h11 fun H12 h12 b12 => g_cons (gH_taken (zs := []) T.cHost T.oHost_own_taken (ev_var rfl) h12 (b12 _ _ ht3 (b11 _ _ ht3 ht2)) fun H13 h13 b13 => g_nil ?_)))
      have w13 := w6.swapT ht e10 h13 ((b11.trans b12).trans b13)
      have hE : s.takeGo snd h n = { s with text := some s.joined, came := some (snd, s.hop, s.tri), frm := none, phase := "runs", tri := 0, taken := [] } := by unfold HostS.takeGo; rw [if_pos ⟨c1, ⟨c2, c3, c4⟩, c5⟩]
      exact k t pl H13 (by show HostAt _ _ _ _ _ (s.takeGo snd h n); rw [hE]; exact w13.at_.host) w13.td_ w13.pl_ w13.fr
    · rw [decide_eq_false_iff_not] at c
      have hE : s.takeGo snd h n = s := by unfold HostS.takeGo; rw [if_neg c]
      exact k td pl H2 (by show HostAt _ _ _ _ _ (s.takeGo snd h n); rw [hE]; exact (w1.ex e2).at_.host) (.inl rfl) (.inl rfl) (w1.ex e2).fr
end
end Rel
end
section
open PySem PySem.Spec PyProof.Rows L2 Evl Rel
local macro_rules | `(tactic| walk_at "hp") => `(tactic| first | assumption | exact upd_same)
local macro_rules | `(tactic| walk_at "mem") => `(tactic| first | exact List.Mem.head _ | exact List.Mem.tail _ (List.Mem.head _) | exact List.Mem.tail _ (List.Mem.tail _ (List.Mem.head _)) | exact List.Mem.tail _ (List.Mem.tail _ (List.Mem.tail _ (List.Mem.head _))))
local macro_rules | `(tactic| walk_at "rc") => `(tactic| first | exact rc_int1 | exact rc_intB | exact rc_abs | exact rc_lenL (sq_of (by assumption)) | exact rc_lenT (st_of (by assumption)) | exact rc_lenL (by assumption) | exact rc_lenT (by assumption))
local macro_rules | `(tactic| walk_at "rv") => `(tactic| first | exact rv_I0 | (refine' rv_I ?_; omega) | (refine' rv_I ?_; first | exact ⟨by omega, by omega⟩ | exact .inl ⟨by omega, by omega⟩ | exact .inr ⟨by omega, by omega⟩) | exact rv_ixL (sq_of (by assumption)) rfl | exact rv_ixL (by assumption) rfl | exact rv_ixT (st_of (by assumption)) rfl | exact rv_ixT (by assumption) rfl | exact rv_eq rfl | exact rv_ne rfl)
local macro_rules | `(tactic| walk_at "ed") => `(tactic| first
  | exact ed_var rfl (by assumption)
  | exact ed_ev (ev_var rfl) (.int _)
  | exact ed_ev (ev_var rfl) (.str _)
  | exact ed_ev ev_c .non
  | exact ed_ev ev_c (.bl _)
  | exact ed_ev ev_c (.int _)
  | exact ed_ev ev_c (.str _)
  | (apply ed_ixT; walk_at "ed"; exact ev_c; rfl; rfl)
  | (apply ed_ixL; walk_at "ed"; exact ev_c; rfl; rfl)
  | (apply ed_tup; walk_at "da"; exact of_decide_eq_true rfl)
  | (apply ed_lst; walk_at "da"; exact of_decide_eq_true rfl))
local macro_rules | `(tactic| walk_at "da") => `(tactic| first
  | exact da_nil
  | (apply da_cons; walk_at "ed"; walk_at "da"))
local macro_rules | `(tactic| walk_at "ev") => `(tactic| first
  | exact ev_c
  | (apply ev_is1; walk_at "ed"; simp)
  | (apply ev_is2; walk_at "ed"; simp; simp)
  | (apply ev_ninC; walk_at "ev"; exact ev_c; walk_at "mem")
  | (apply ev_ixC; exact ev_c; walk_at "ev"; walk_at "mem")
  | (apply ev_edI; apply ed_ixT; walk_at "ed"; exact ev_c; rfl; rfl)
  | (apply ev_edS; apply ed_ixT; walk_at "ed"; exact ev_c; rfl; rfl)
  | (apply ev_chain; walk_at "ev"; walk_at "ev"; walk_at "rv"; (intro _; walk_at "ev"); (intro _; walk_at "rv"))
  | (apply ev_notV; walk_at "ev")
  | (apply ev_andV; walk_at "ev"; (intro _; walk_at "ev"))
  | exact ev_lenL (ed_var rfl (by assumption))
  | (apply ev_edB; apply ed_call; walk_at "da"; apply spFun_D; first | trivial | assumption)
  | exact ev_lenT (ed_var rfl (by assumption))
  | (apply ev_isND; walk_at "ed")
  | (apply ev_notND; walk_at "ed")
  | (apply ev_isN; walk_at "ev")
  | (apply ev_notN; walk_at "ev")
  | exact ev_var rfl
  | (apply ev_op; walk_at "ev"; walk_at "ev"; walk_at "rv")
  | (apply ev_un; walk_at "ev"; exact ru_neg)
  | (apply ev_cb; walk_at "ea"; walk_at "rc"))
local macro_rules | `(tactic| walk_at "ea") => `(tactic| first
  | exact ea_nil
  | (apply ea_cons; walk_at "ev"; walk_at "ea"))
local macro_rules | `(tactic| walk_at "et") => `(tactic| first
  | (apply et_test; walk_at "ev")
  | (apply et_B; walk_at "ev")
  | (apply et_or; walk_at "et"; (intro _; walk_at "et"))
  | (apply et_and; walk_at "et"; (intro _; walk_at "et"))
  | (apply et_not; walk_at "et"))
local macro_rules | `(tactic| walk_at "evr") => `(tactic| (apply ev_is; walk_at "ev"; rfl))
local macro_rules | `(tactic| walk_at "etr") => `(tactic| (first | apply et_B | apply et_test); (apply ev_is; walk_at "ev"; rfl))
local macro_rules | `(tactic| walk_at "evs") => `(tactic| (apply ev_is; walk_at "ev"; simp [isiB, tyN]))
local macro_rules | `(tactic| walk_at "ets") => `(tactic| (apply et_is; walk_at "et"; simp [isiB, tyN]))
local macro_rules | `(tactic| walk_at "etr1") => `(tactic| (apply et_is; walk_at "et"; rfl))
local macro_rules | `(tactic| walk_at "rv") => `(tactic| first | exact rv_eq (scal_iO _ _) | exact rv_ne (scal_iO _ _) | exact rv_eq (scal_Oi _ _) | exact rv_ne (scal_Oi _ _))
local macro_rules | `(tactic| walk_at "etk") => `(tactic| (apply et_is; walk_at "et"; kernel_rfl))
local macro_rules | `(tactic| walk_at "fl") => `(tactic| first
  | (apply ev_fld (hn := (‹Txt _ _ _›).oHost_own_number) (hl := fl_number); exact ev_var rfl; (first | assumption | exact HA.p_ (by assumption)); exact (‹Txt _ _ _›).cHost)
  | (apply ev_fld (hn := (‹Txt _ _ _›).oHost_own_phase) (hl := fl_phase); exact ev_var rfl; (first | assumption | exact HA.p_ (by assumption)); exact (‹Txt _ _ _›).cHost)
  | (apply ev_fld (hn := (‹Txt _ _ _›).oHost_own_hop) (hl := fl_hop); exact ev_var rfl; (first | assumption | exact HA.p_ (by assumption)); exact (‹Txt _ _ _›).cHost)
  | (apply ev_fld (hn := (‹Txt _ _ _›).oHost_own_try) (hl := fl_try); exact ev_var rfl; (first | assumption | exact HA.p_ (by assumption)); exact (‹Txt _ _ _›).cHost)
  | (apply ev_fld (hn := (‹Txt _ _ _›).oHost_own_text) (hl := fl_text); exact ev_var rfl; (first | assumption | exact HA.p_ (by assumption)); exact (‹Txt _ _ _›).cHost)
  | (apply ev_fld (hn := (‹Txt _ _ _›).oHost_own_goal) (hl := fl_goal); exact ev_var rfl; (first | assumption | exact HA.p_ (by assumption)); exact (‹Txt _ _ _›).cHost)
  | (apply ev_fld (hn := (‹Txt _ _ _›).oHost_own_pieces) (hl := fl_pieces); exact ev_var rfl; (first | assumption | exact HA.p_ (by assumption)); exact (‹Txt _ _ _›).cHost)
  | (apply ev_fld (hn := (‹Txt _ _ _›).oHost_own_taken) (hl := fl_taken); exact ev_var rfl; (first | assumption | exact HA.p_ (by assumption)); exact (‹Txt _ _ _›).cHost)
  | (apply ev_fld (hn := (‹Txt _ _ _›).oHost_own_from) (hl := fl_from); exact ev_var rfl; (first | assumption | exact HA.p_ (by assumption)); exact (‹Txt _ _ _›).cHost)
  | (apply ev_fld (hn := (‹Txt _ _ _›).oHost_own_many) (hl := fl_many); exact ev_var rfl; (first | assumption | exact HA.p_ (by assumption)); exact (‹Txt _ _ _›).cHost)
  | (apply ev_fld (hn := (‹Txt _ _ _›).oHost_own_came) (hl := fl_came); exact ev_var rfl; (first | assumption | exact HA.p_ (by assumption)); exact (‹Txt _ _ _›).cHost))
local macro_rules | `(tactic| walk_at "ev") => `(tactic| walk_at "fl")
namespace Rel
open PySem PySem.Spec PyProof.Rows L2 Evl
structure RcA where
  snd : Int
  m : Msg
  v : V
  d : PyData
section
variable {P : Program} {w : World} {K : PySem.W.Frag} {mg : Str → Option Value} {base : Heap}
theorem ok_Host_receive {f : Addr} {fd : FuncData} (F : FnP K "receive" "Host.receive" sHost_receive f fd) (T : Txt K mg w)
    (Fas_tuples : Fx P w K mg base CX0 "as_tuples" ["thing"] 4 (spFun tupD (okD 4)))
    (Fis_number : Fx P w K mg base CX0 "is_number" ["thing"] 1 (spFun (fun d => .bool (isIntD d)) fun _ => True))
    (Fis_relay_message : Fx P w K mg base CX0 "is_relay_message" ["thing"] 2 (spFun (fun _ => .bool true) fun d => ∃ m : Msg, m.ok ∧ d = m.d))
    (FHost_take_piece : Mx P w K mg base CX0 T.aHost "take_piece" ["self", "sender", "message"] 2 (spM T.aHost PcA (fun a => [.int a.snd, a.v]) (fun a s H => Da N0 H a.v (Msg.piece a.h a.n a.i a.m a.z).d ∧ s.taken.length < 100000) (fun a s => s.takePiece a.snd a.h a.n a.i a.m a.z) fun _ _ => .non))
    (FHost_take_go : Mx P w K mg base CX0 T.aHost "take_go" ["self", "sender", "message"] 2 (spM T.aHost GoA (fun a => [.int a.snd, a.v]) (fun a s H => Da N0 H a.v (Msg.go a.h a.n).d ∧ s.Ok) (fun a s => s.takeGo a.snd a.h a.n) fun _ _ => .non))
    (FHost_take_answer : Mx P w K mg base CX0 T.aHost "take_answer" ["self", "word"] 2 (spM T.aHost Bool (fun b => [.str (if b then "whole" else "going")]) (fun _ _ _ => True) (fun b s => s.answer b) fun _ _ => .non)) : FnOk P w K mg base CX0 5 f fd ["self", "sender", "message"]
    (spM T.aHost RcA (fun a => [.int a.snd, a.v]) (fun a s H => 0 ≤ a.snd ∧ a.m.ok ∧ Da N0 H a.v a.d ∧ tupD a.d = a.m.d ∧ okD 4 a.d ∧ s.Ok) (fun a s => s.receive a.snd a.m) fun _ _ => .non) := by
  refine F.ok scHost_receive (fun vs H Q E h => ?_) (fun cdv A outer s H vs Q E hr h => ?_)
  · obtain ⟨_, _, _, _, _, rfl, _⟩ := h
    rfl
  · obtain ⟨⟨snd, m, v, d⟩, p, td, pl, s, rfl, hh, ⟨h0s, hm, hv, hd, hdo, hok⟩, k⟩ := h
    dsimp only at h0s hm hv hd hdo k
    obtain ⟨dx, cm, h0⟩ := hh.ha
    have nd := scHost_receive.nd
    refine ⟨_, PSs.nox (pss_cons (ps_set (i := 3) nd rfl (Or.inl rfl) (pe_call Fas_tuples.ok (hr.mono (by first | decide | omega)) rfl Fas_tuples.g Fas_tuples.kp Fas_tuples.b .nil pass0 (pa_cons (pv 2) pa_nil)))
  (pss_cons (ps_if (PW.pt (pw_or (pt_not (pt_val (pe_call Fis_number.ok (hr.mono (by first | decide | omega)) rfl Fis_number.g Fis_number.kp Fis_number.b .nil pass0 (pa_cons (pv 1) pa_nil)))) (pw_or (pt_cmpR op_lt (pv 1) pe_int (nomark _)) (pw_or1 (pt_not (pt_val (pe_call Fis_relay_message.ok (hr.mono (by first | decide | omega)) rfl Fis_relay_message.g Fis_relay_message.kp Fis_relay_message.b .nil pass0 (pa_cons (pv 3) pa_nil)))))))) (pss_one ps_never) pss_nil)
  (pss_one (ps_if (pt_cmpR op_eq (pe_ix (kx_tup (K := K) rfl) (pv 3) pe_int (fun _ _ => rfl)) (pe_glob (v := .str "piece") rfl T.gPIECE_relay ⟨_, rfl⟩) (nomark _)) (pss_one (ps_expr (pe_meth (pv 0) T.cHost FHost_take_piece.m FHost_take_piece.ok (hr.mono (by first | decide | omega)) FHost_take_piece.b .nil pass0 (pa_cons (pv 1) (pa_cons (pv 3) pa_nil))))) (pss_one (ps_if (pt_cmpR op_eq (pe_ix (kx_tup (K := K) rfl) (pv 3) pe_int (fun _ _ => rfl)) (pe_glob (v := .str "go") rfl T.gGO_relay ⟨_, rfl⟩) (nomark _)) (pss_one (ps_expr (pe_meth (pv 0) T.cHost FHost_take_go.m FHost_take_go.ok (hr.mono (by first | decide | omega)) FHost_take_go.b .nil pass0 (pa_cons (pv 1) (pa_cons (pv 3) pa_nil))))) (pss_one (ps_if (PW.pt (pw_and (pt_cmpR op_eq (pv 1) (pe_fldK (K := K) rfl (pv 0) rfl) (nomark _)) (pw_and1 (pt_cmpR (ko_eqD (K := K) rfl hr.units) (pe_slice (ks_tup (K := K) rfl) (pv 3) (po_some pe_int) po_none) (pe_tup (pa_cons (pe_op op_add (pe_fldK (K := K) rfl (pv 0) rfl) pe_int) (pa_cons (pe_fldK (K := K) rfl (pv 0) rfl) pa_nil))) (nomark _))))) (pss_one (ps_expr (pe_meth (pv 0) T.cHost FHost_take_answer.m FHost_take_answer.ok (hr.mono (by first | decide | omega)) FHost_take_answer.b .nil pass0 (pa_cons (pe_ix (kx_tup (K := K) rfl) (pv 3) pe_int (fun _ _ => rfl)) pa_nil)))) pss_nil)))))))), ?_⟩
    refine q_asgD (d := m.d) (by rw [← hd]; exact ed_call (da_cons (ed_var rfl hv) da_nil) (spFun_D hdo)) fun tv H1 e1 hv1 => ?_
    have h1 := h0.ex e1
    have hex : ∃ m' : Msg, m'.ok ∧ m.d = m'.d := ⟨m, hm, rfl⟩
    have his : Da N0 H1 (.int snd) (.int snd) := .int _
    refine q_when (b := false) ?_ (fun z => nomatch z) fun _ H2 e2 => ?_
    · apply et_is
      · apply et_or
        · walk_at "et"
        · intro _
          apply et_or
          · walk_at "et"
          · intro _
            exact et_not (et_B (b := true) (ev_edB (ed_call (da_cons (ed_var rfl hv1) da_nil) (spFun_D (f := fun _ => .bool true) (C := fun d => ∃ m : Msg, m.ok ∧ d = m.d) hex))))
      · rw [decide_eq_false (by omega : ¬ snd < 0)]; rfl
    have h2 := h1.ex e2
    have hv2 := hv1.ex e2
    cases m with
    | piece h t i m z =>
      have hv2' : Da N0 H2 tv (.tuple [.str "piece", .int h, .int t, .int i, .int m, .str z]) := hv2
      refine s_if (b := true) (by walk_at "etk") (fun _ H3 e3 => ?_) (fun z => nomatch z)
      refine s_callM (PcA.mk snd tv h t i m z) (ev_var rfl) (ea_cons (ev_var rfl) (ea_cons (ev_var rfl) ea_nil)) (h2.ex e3).host (fun H' e' => ⟨(hv2.ex e3).ex e', by have := hok.few; omega⟩) fun td' pl' H' hh' ht hp fr => ?_
      have e := (e1.trans e2).trans e3
      exact k td' pl' H' hh' (ht.imp id fun z => fresh_back e z) (hp.imp id fun z => fresh_back e z) (fun c o n n2 q => fr c o n n2 (e c o q))
    | go h t =>
      have hv2' : Da N0 H2 tv (.tuple [.str "go", .int h, .int t]) := hv2
      refine s_if (b := false) (by walk_at "etk") (fun z => nomatch z) (fun _ H3 e3 => ?_)
      have hv3 := hv2'.ex e3
      refine s_if (b := true) (by walk_at "etk") (fun _ H4 e4 => ?_) (fun z => nomatch z)
      refine s_callM (GoA.mk snd tv h t) (ev_var rfl) (ea_cons (ev_var rfl) (ea_cons (ev_var rfl) ea_nil)) ((h2.ex e3).ex e4).host (fun H' e' => ⟨((hv2.ex e3).ex e4).ex e', hok⟩) fun td' pl' H' hh' ht hp fr => ?_
      have e := ((e1.trans e2).trans e3).trans e4
      exact k td' pl' H' hh' (ht.imp id fun z => fresh_back e z) (hp.imp id fun z => fresh_back e z) (fun c o n n2 q => fr c o n n2 (e c o q))
    | whole h t =>
      have hv2' : Da N0 H2 tv (.tuple [.str "whole", .int h, .int t]) := hv2
      refine s_if (b := false) (by walk_at "etk") (fun z => nomatch z) (fun _ H3 e3 => ?_)
      have hv3 := hv2'.ex e3
      refine s_if (b := false) (by walk_at "etk") (fun z => nomatch z) (fun _ H4 e4 => ?_)
      have hv4 := hv3.ex e4
      have h4 := (h2.ex e3).ex e4
      refine s_when (b := decide (s.goal = some snd ∧ h = s.hop + 1 ∧ t = s.tri)) ?_ (fun c H5 e5 => ?_) (fun c H5 e5 => ?_)
      · refine et_is (et_and (a := decide (V.int snd = oI s.goal)) (by walk_at "et") fun _ => et_test (ev_eqD (d := .tuple [.int h, .int t]) (d' := .tuple [.int (s.hop + 1), .int s.tri]) (ed_slT (lo := some 1) (hi := none) (ed_var rfl hv4) (eo_some ev_c) eo_none (show ¬ (HT.sIx 3 0 (some 1) = 0 ∧ HT.sIx 3 3 none = 3) by decide)) ?_ rfl rfl)) ?_
        · exact ed_tup (da_cons (ed_ev (by walk_at "ev") (.int _)) (da_cons (ed_ev (by walk_at "ev") (.int _)) da_nil)) (of_decide_eq_true rfl)
        · rw [eqv2, Bool.eq_iff_iff]; simp [oI_int]
      · have e := (((e1.trans e2).trans e3).trans e4).trans e5
        have hv5 := hv4.ex e5
        have hE : s.receive snd (.whole h t) = s.answer true := by unfold HostS.receive; exact if_pos (of_decide_eq_true c)
        refine s_callM true (ev_var rfl) (by show EvA _ _ _ [V.str (if (true : Bool) = true then "whole" else "going")]; rw [if_pos rfl]; exact ea_cons (x := .str "whole") (by walk_at "ev") ea_nil) (h4.ex e5).host (fun H' e' => trivial) fun td' pl' H' hh' ht hp fr => ?_
        exact k td' pl' H' (by show HostAt _ _ _ _ _ (s.receive snd (.whole h t)); rw [hE]; exact hh') (ht.imp id fun z => fresh_back e z) (hp.imp id fun z => fresh_back e z) (fun c o n n2 q => fr c o n n2 (e c o q))
      · have e := (((e1.trans e2).trans e3).trans e4).trans e5
        have hE : s.receive snd (.whole h t) = s := by unfold HostS.receive; exact if_neg (of_decide_eq_false c)
        exact k td pl H5 (by show HostAt _ _ _ _ _ (s.receive snd (.whole h t)); rw [hE]; exact (h4.ex e5).host) (.inl rfl) (.inl rfl) (Frm.of_ex e)
    | going h t =>
      have hv2' : Da N0 H2 tv (.tuple [.str "going", .int h, .int t]) := hv2
      refine s_if (b := false) (by walk_at "etk") (fun z => nomatch z) (fun _ H3 e3 => ?_)
      have hv3 := hv2'.ex e3
      refine s_if (b := false) (by walk_at "etk") (fun z => nomatch z) (fun _ H4 e4 => ?_)
      have hv4 := hv3.ex e4
      have h4 := (h2.ex e3).ex e4
      refine s_when (b := decide (s.goal = some snd ∧ h = s.hop + 1 ∧ t = s.tri)) ?_ (fun c H5 e5 => ?_) (fun c H5 e5 => ?_)
      · refine et_is (et_and (a := decide (V.int snd = oI s.goal)) (by walk_at "et") fun _ => et_test (ev_eqD (d := .tuple [.int h, .int t]) (d' := .tuple [.int (s.hop + 1), .int s.tri]) (ed_slT (lo := some 1) (hi := none) (ed_var rfl hv4) (eo_some ev_c) eo_none (show ¬ (HT.sIx 3 0 (some 1) = 0 ∧ HT.sIx 3 3 none = 3) by decide)) ?_ rfl rfl)) ?_
        · exact ed_tup (da_cons (ed_ev (by walk_at "ev") (.int _)) (da_cons (ed_ev (by walk_at "ev") (.int _)) da_nil)) (of_decide_eq_true rfl)
        · rw [eqv2, Bool.eq_iff_iff]; simp [oI_int]
      · have e := (((e1.trans e2).trans e3).trans e4).trans e5
        have hv5 := hv4.ex e5
        have hE : s.receive snd (.going h t) = s.answer false := by unfold HostS.receive; exact if_pos (of_decide_eq_true c)
        refine s_callM false (ev_var rfl) (by show EvA _ _ _ [V.str (if (false : Bool) = true then "whole" else "going")]; rw [if_neg (by decide)]; exact ea_cons (x := .str "going") (by walk_at "ev") ea_nil) (h4.ex e5).host (fun H' e' => trivial) fun td' pl' H' hh' ht hp fr => ?_
        exact k td' pl' H' (by show HostAt _ _ _ _ _ (s.receive snd (.going h t)); rw [hE]; exact hh') (ht.imp id fun z => fresh_back e z) (hp.imp id fun z => fresh_back e z) (fun c o n n2 q => fr c o n n2 (e c o q))
      · have e := (((e1.trans e2).trans e3).trans e4).trans e5
        have hE : s.receive snd (.going h t) = s := by unfold HostS.receive; exact if_neg (of_decide_eq_false c)
        exact k td pl H5 (by show HostAt _ _ _ _ _ (s.receive snd (.going h t)); rw [hE]; exact (h4.ex e5).host) (.inl rfl) (.inl rfl) (Frm.of_ex e)
end
end Rel
end
section
open PySem PySem.Spec PyProof.Rows L2 Evl Rel
local macro_rules | `(tactic| walk_at "hp") => `(tactic| first | assumption | exact upd_same)
local macro_rules | `(tactic| walk_at "mem") => `(tactic| first | exact List.Mem.head _ | exact List.Mem.tail _ (List.Mem.head _) | exact List.Mem.tail _ (List.Mem.tail _ (List.Mem.head _)) | exact List.Mem.tail _ (List.Mem.tail _ (List.Mem.tail _ (List.Mem.head _))))
local macro_rules | `(tactic| walk_at "rc") => `(tactic| first | exact rc_int1 | exact rc_intB | exact rc_abs | exact rc_lenL (sq_of (by assumption)) | exact rc_lenT (st_of (by assumption)) | exact rc_lenL (by assumption) | exact rc_lenT (by assumption))
local macro_rules | `(tactic| walk_at "rv") => `(tactic| first | exact rv_I0 | (refine' rv_I ?_; omega) | (refine' rv_I ?_; first | exact ⟨by omega, by omega⟩ | exact .inl ⟨by omega, by omega⟩ | exact .inr ⟨by omega, by omega⟩) | exact rv_ixL (sq_of (by assumption)) rfl | exact rv_ixL (by assumption) rfl | exact rv_ixT (st_of (by assumption)) rfl | exact rv_ixT (by assumption) rfl | exact rv_eq rfl | exact rv_ne rfl)
local macro_rules | `(tactic| walk_at "ed") => `(tactic| first
  | exact ed_var rfl (by assumption)
  | exact ed_ev (ev_var rfl) (.int _)
  | exact ed_ev (ev_var rfl) (.str _)
  | exact ed_ev ev_c .non
  | exact ed_ev ev_c (.bl _)
  | exact ed_ev ev_c (.int _)
  | exact ed_ev ev_c (.str _)
  | (apply ed_ixT; walk_at "ed"; exact ev_c; rfl; rfl)
  | (apply ed_ixL; walk_at "ed"; exact ev_c; rfl; rfl)
  | (apply ed_tup; walk_at "da"; exact of_decide_eq_true rfl)
  | (apply ed_lst; walk_at "da"; exact of_decide_eq_true rfl))
local macro_rules | `(tactic| walk_at "da") => `(tactic| first
  | exact da_nil
  | (apply da_cons; walk_at "ed"; walk_at "da"))
local macro_rules | `(tactic| walk_at "ev") => `(tactic| first
  | exact ev_c
  | (apply ev_is1; walk_at "ed"; simp)
  | (apply ev_is2; walk_at "ed"; simp; simp)
  | (apply ev_ninC; walk_at "ev"; exact ev_c; walk_at "mem")
  | (apply ev_ixC; exact ev_c; walk_at "ev"; walk_at "mem")
  | (apply ev_edI; apply ed_ixT; walk_at "ed"; exact ev_c; rfl; rfl)
  | (apply ev_edS; apply ed_ixT; walk_at "ed"; exact ev_c; rfl; rfl)
  | (apply ev_chain; walk_at "ev"; walk_at "ev"; walk_at "rv"; (intro _; walk_at "ev"); (intro _; walk_at "rv"))
  | (apply ev_notV; walk_at "ev")
  | (apply ev_andV; walk_at "ev"; (intro _; walk_at "ev"))
  | exact ev_lenL (ed_var rfl (by assumption))
  | (apply ev_edB; apply ed_call; walk_at "da"; apply spFun_D; first | trivial | assumption)
  | exact ev_lenT (ed_var rfl (by assumption))
  | (apply ev_isND; walk_at "ed")
  | (apply ev_notND; walk_at "ed")
  | (apply ev_isN; walk_at "ev")
  | (apply ev_notN; walk_at "ev")
  | exact ev_var rfl
  | (apply ev_op; walk_at "ev"; walk_at "ev"; walk_at "rv")
  | (apply ev_un; walk_at "ev"; exact ru_neg)
  | (apply ev_cb; walk_at "ea"; walk_at "rc"))
local macro_rules | `(tactic| walk_at "ea") => `(tactic| first
  | exact ea_nil
  | (apply ea_cons; walk_at "ev"; walk_at "ea"))
local macro_rules | `(tactic| walk_at "et") => `(tactic| first
  | (apply et_test; walk_at "ev")
  | (apply et_B; walk_at "ev")
  | (apply et_or; walk_at "et"; (intro _; walk_at "et"))
  | (apply et_and; walk_at "et"; (intro _; walk_at "et"))
  | (apply et_not; walk_at "et"))
local macro_rules | `(tactic| walk_at "evr") => `(tactic| (apply ev_is; walk_at "ev"; rfl))
local macro_rules | `(tactic| walk_at "etr") => `(tactic| (first | apply et_B | apply et_test); (apply ev_is; walk_at "ev"; rfl))
local macro_rules | `(tactic| walk_at "evs") => `(tactic| (apply ev_is; walk_at "ev"; simp [isiB, tyN]))
local macro_rules | `(tactic| walk_at "ets") => `(tactic| (apply et_is; walk_at "et"; simp [isiB, tyN]))
local macro_rules | `(tactic| walk_at "etr1") => `(tactic| (apply et_is; walk_at "et"; rfl))
local macro_rules | `(tactic| walk_at "rv") => `(tactic| first | exact rv_eq (scal_iO _ _) | exact rv_ne (scal_iO _ _) | exact rv_eq (scal_Oi _ _) | exact rv_ne (scal_Oi _ _))
local macro_rules | `(tactic| walk_at "etk") => `(tactic| (apply et_is; walk_at "et"; kernel_rfl))
local macro_rules | `(tactic| walk_at "fl") => `(tactic| first
  | (apply ev_fld (hn := (‹Txt _ _ _›).oHost_own_number) (hl := fl_number); exact ev_var rfl; (first | assumption | exact HA.p_ (by assumption)); exact (‹Txt _ _ _›).cHost)
  | (apply ev_fld (hn := (‹Txt _ _ _›).oHost_own_phase) (hl := fl_phase); exact ev_var rfl; (first | assumption | exact HA.p_ (by assumption)); exact (‹Txt _ _ _›).cHost)
  | (apply ev_fld (hn := (‹Txt _ _ _›).oHost_own_hop) (hl := fl_hop); exact ev_var rfl; (first | assumption | exact HA.p_ (by assumption)); exact (‹Txt _ _ _›).cHost)
  | (apply ev_fld (hn := (‹Txt _ _ _›).oHost_own_try) (hl := fl_try); exact ev_var rfl; (first | assumption | exact HA.p_ (by assumption)); exact (‹Txt _ _ _›).cHost)
  | (apply ev_fld (hn := (‹Txt _ _ _›).oHost_own_text) (hl := fl_text); exact ev_var rfl; (first | assumption | exact HA.p_ (by assumption)); exact (‹Txt _ _ _›).cHost)
  | (apply ev_fld (hn := (‹Txt _ _ _›).oHost_own_goal) (hl := fl_goal); exact ev_var rfl; (first | assumption | exact HA.p_ (by assumption)); exact (‹Txt _ _ _›).cHost)
  | (apply ev_fld (hn := (‹Txt _ _ _›).oHost_own_pieces) (hl := fl_pieces); exact ev_var rfl; (first | assumption | exact HA.p_ (by assumption)); exact (‹Txt _ _ _›).cHost)
  | (apply ev_fld (hn := (‹Txt _ _ _›).oHost_own_taken) (hl := fl_taken); exact ev_var rfl; (first | assumption | exact HA.p_ (by assumption)); exact (‹Txt _ _ _›).cHost)
  | (apply ev_fld (hn := (‹Txt _ _ _›).oHost_own_from) (hl := fl_from); exact ev_var rfl; (first | assumption | exact HA.p_ (by assumption)); exact (‹Txt _ _ _›).cHost)
  | (apply ev_fld (hn := (‹Txt _ _ _›).oHost_own_many) (hl := fl_many); exact ev_var rfl; (first | assumption | exact HA.p_ (by assumption)); exact (‹Txt _ _ _›).cHost)
  | (apply ev_fld (hn := (‹Txt _ _ _›).oHost_own_came) (hl := fl_came); exact ev_var rfl; (first | assumption | exact HA.p_ (by assumption)); exact (‹Txt _ _ _›).cHost))
local macro_rules | `(tactic| walk_at "ev") => `(tactic| walk_at "fl")
namespace Rel
open PySem PySem.Spec PyProof.Rows L2 Evl
section
variable {P : Program} {w : World} {K : PySem.W.Frag} {mg : Str → Option Value} {base : Heap}
theorem ok_Host_messages {f : Addr} {fd : FuncData} (F : FnP K "messages" "Host.messages" sHost_messages f fd) (T : Txt K mg w)
    (FHost_is_whole : Mx P w K mg base CX0 T.aHost "is_whole" ["self"] 1 (spGet T.aHost fun s => .bl s.whole)) : FnOk P w K mg base CX0 2 f fd ["self"] (spMsgs T.aHost) := by
  refine F.ok scHost_messages (fun vs H Q E h => ?_) (fun cdv A outer s H vs Q E hr h => ?_)
  · obtain ⟨_, _, _, _, rfl, _⟩ := h
    rfl
  · obtain ⟨p, td, pl, s, rfl, hh, hlen, k⟩ := h
    obtain ⟨dx, cm, h0⟩ := hh.ha
    have nd := scHost_messages.nd
    refine ⟨_, PSs.nox (pss_cons (ps_set (i := 1) nd rfl (Or.inl rfl) (pe_lst pa_nil))
  (pss_cons (ps_if (pt_cmpR op_eq (pe_fldK (K := K) rfl (pv 0) rfl) (pe_glob (v := .str "frozen") rfl T.gFROZEN_relay ⟨_, rfl⟩) (nomark _)) (pss_cons (ps_set (i := 2) nd rfl (Or.inl rfl) (pe_callB (kc_len (K := K) rfl) rfl T.n_len (by decide +kernel) (pa_cons (pe_fldK (K := K) rfl (pv 0) rfl) pa_nil)))
  (pss_one (ps_for PassesOwn.never rfl (pi_enum (by rfl) T.n_enumerate (pa_cons (pe_fldK (K := K) rfl (pv 0) rfl) pa_nil)) (pg_tup rfl (pgs_cons (pg_name (i := 3) nd rfl (Or.inl rfl)) (pgs_cons (pg_name (i := 4) nd rfl (Or.inl rfl)) pgs_nil))) (pss_one (ps_expr (pe_bm PySem.F.plainAttrs_list PySem.F.slot_list_append PySem.F.type_list_append mt_append (pv 1) (pa_cons (pe_tup (pa_cons (pe_fldK (K := K) rfl (pv 0) rfl) (pa_cons (pe_tup (pa_cons (pe_glob (v := .str "piece") rfl T.gPIECE_relay ⟨_, rfl⟩) (pa_cons (pe_op op_add (pe_fldK (K := K) rfl (pv 0) rfl) pe_int) (pa_cons (pe_fldK (K := K) rfl (pv 0) rfl) (pa_cons (pv 3) (pa_cons (pv 2) (pa_cons (pv 4) pa_nil))))))) pa_nil))) pa_nil))))))) pss_nil)
  (pss_cons (ps_if (pt_cmpR op_eq (pe_fldK (K := K) rfl (pv 0) rfl) (pe_glob (v := .str "given") rfl T.gGIVEN_relay ⟨_, rfl⟩) (nomark _)) (pss_one (ps_expr (pe_bm PySem.F.plainAttrs_list PySem.F.slot_list_append PySem.F.type_list_append mt_append (pv 1) (pa_cons (pe_tup (pa_cons (pe_fldK (K := K) rfl (pv 0) rfl) (pa_cons (pe_tup (pa_cons (pe_glob (v := .str "go") rfl T.gGO_relay ⟨_, rfl⟩) (pa_cons (pe_op op_add (pe_fldK (K := K) rfl (pv 0) rfl) pe_int) (pa_cons (pe_fldK (K := K) rfl (pv 0) rfl) pa_nil)))) pa_nil))) pa_nil)))) pss_nil)
  (pss_cons (ps_if (PW.pt (pw_and (pt_cmpR op_eq (pe_fldK (K := K) rfl (pv 0) rfl) (pe_glob (v := .str "away") rfl T.gAWAY ⟨_, rfl⟩) (nomark _)) (pw_and1 (pt_val (pe_meth0 (pv 0) T.cHost FHost_is_whole.m FHost_is_whole.ok (hr.mono (by first | decide | omega)) FHost_is_whole.b .nil pass0))))) (pss_one (ps_expr (pe_bm PySem.F.plainAttrs_list PySem.F.slot_list_append PySem.F.type_list_append mt_append (pv 1) (pa_cons (pe_tup (pa_cons (pe_fldK (K := K) rfl (pv 0) rfl) (pa_cons (pe_tup (pa_cons (pe_glob (v := .str "whole") rfl T.gWHOLE_relay ⟨_, rfl⟩) (pa_cons (pe_fldK (K := K) rfl (pv 0) rfl) (pa_cons (pe_fldK (K := K) rfl (pv 0) rfl) pa_nil)))) pa_nil))) pa_nil)))) pss_nil)
  (pss_one (ps_ret (pe_op op_cat (pv 1) (pe_ifExp (pt_cmp (pc_notN (pe_fldK (K := K) rfl (pv 0) rfl)) rfl) (pe_lst (pa_cons (pe_fldK (K := K) rfl (pv 0) rfl) pa_nil)) (pe_lst pa_nil))))))))), ?_⟩
    refine q_asgL (el_lst ea_nil (by show 0 ≤ 100000; decide)) fun f0 H1 hf e1 h1 => ?_
    have P1 : MsP p f0 H [] ((L2.start ["self", "found", "many", "index", "text"] [V.ref p]).set 1 (some (.ref f0))) H1 := ⟨⟨_, _, _, rfl⟩, ⟨[], h1, .nil⟩, rfl, e1⟩
    have hpl : pl ≠ f0 := by rintro rfl; rw [h0.l_] at hf; cases hf
    refine q_whenS (b := decide (s.phase = "frozen")) (fun σ' H' => MsP p f0 H (if s.phase = "frozen" then (List.range s.pieces.length).map s.pcD else []) σ' H') ?_ (fun c H2 e2 N q => ?_) (fun c H2 e2 => ?_) fun σ2 H2 m2 => ?_
    · have h1 := h0.ex e1
      apply et_is; walk_at "et"
      simp
    · have c' := of_decide_eq_true c
      have m2 := P1.ex' e2
      have h2 := h0.ex (e1.trans e2)
      refine q_asg (v := .int s.pieces.length) ?_ fun H3 e3 => ?_
      · refine ev_is (ev_lenL (ds := s.pieces.map PyData.str) (ed_ev (v := .ref pl) (by walk_at "ev") (.lst h2.l_ id (DaAll.mapD (fun z => .str z) _)))) (by rw [List.length_map])
      have h3 := h2.ex e3
      have m3 : MsP p f0 H [] _ H3 := m2.ex' e3
      refine enum_at (ea_cons (x := .ref pl) (by walk_at "ev") ea_nil) (sq_of h3.l_) fun H4 e4 => ?_
      refine for_it (walk_enum (xs := s.pieces.map V.str)) (fun i σ H' => MsP p f0 H ((List.range i).map s.pcD) σ H' ∧ σ[2]? = some (some (.int s.pieces.length)) ∧ H' pl = some (.lst (s.pieces.map V.str))) ?_ ?_ ?_ ?_
      · exact ⟨⟨⟨_, _, _, rfl⟩, (m3.ex' e4).ls, rfl, (m3.ex' e4).ex⟩, rfl, e4 _ _ h3.l_⟩
      · exact fun _ _ _ _ z => sq_of z.2.2
      · rintro i x σ H5 H6 hi ⟨m5, hs, hq⟩ ⟨U, x0, y0, rfl, hU, rfl, hx, hy⟩
        cases hx
        replace hy : (s.pieces.map V.str)[i]? = some y0 := hy
        rw [List.getElem?_map] at hy
        obtain ⟨z, hz, rfl⟩ := Option.map_eq_some_iff.mp hy
        rw [List.length_map] at hi
        refine g_pair upd_same ?_
        obtain ⟨⟨v2, v3, v4, rfl⟩, ml, mn, me⟩ := m5
        obtain rfl : v2 = some (.int s.pieces.length) := by simpa using hs
        have e6 : Ex H5 (upd H5 U (.tup [.int (i : Nat), .str z])) := Ex.new hU
        have m6 : MsP p f0 H ((List.range i).map s.pcD) [some (.ref p), some (.ref f0), some (.int s.pieces.length), some (.int (i : Nat)), some (.str z)] (upd H5 U (.tup [.int (i : Nat), .str z])) := ⟨⟨_, _, _, rfl⟩, (by obtain ⟨xs, a, b⟩ := ml; exact ⟨xs, e6 _ _ a, b.ex e6⟩), mn, me.trans e6⟩
        have hq6 := e6 _ _ hq
        have h6 := h0.ex m6.ex
        generalize upd H5 U (.tup [.int (i : Nat), .str z]) = H6 at m6 hq6 h6 e6 ⊢
        have hp : s.pcD i = .tuple [oID s.goal, .tuple [.str "piece", .int (s.hop + 1), .int s.tri, .int (i : Int), .int (s.pieces.length : Int), .str z]] := by
          unfold HostS.pcD
          rw [List.getD_eq_getElem?_getD, hz]
          rfl
        refine m6.app hf (d := s.pcD i) (by rw [hp]; simp [noL, noLs, noL_oID]) (by rw [List.length_map, List.length_range]; omega) ?_ fun H7 m7 => ⟨?_, rfl, ?_⟩
        · rw [hp]
          exact ed_tup (da_cons (ed_ev (by walk_at "ev") (oI_da _)) (da_cons (ed_tup (da_cons (ed_ev ev_c (.str _)) (da_cons (ed_ev (by walk_at "ev") (.int _)) (da_cons (ed_ev (by walk_at "ev") (.int _)) (da_cons (ed_ev (ev_var rfl) (.int _)) (da_cons (ed_ev (ev_var rfl) (.int _)) (da_cons (ed_ev (ev_var rfl) (.str _)) da_nil)))))) (of_decide_eq_true rfl)) da_nil)) (of_decide_eq_true rfl)
        · rw [List.range_succ, List.map_append]
          exact m7
        · exact (h0.ex m7.ex).l_
      · rintro σ H5 ⟨m5, _, _⟩
        rw [List.length_map] at m5
        refine q _ _ ?_
        rw [if_pos c']
        exact m5
    · rw [if_neg (of_decide_eq_false c)]
      exact P1.ex' e2
    have l2 : (if s.phase = "frozen" then (List.range s.pieces.length).map s.pcD else []).length ≤ 1000 := by
      split
      · rw [List.length_map, List.length_range]; exact hlen
      · exact Nat.zero_le _
    have h2 := h0.ex m2.ex
    have hE : s.msgsD = s.msgsD := rfl
    conv at hE => rhs; unfold HostS.msgsD
    replace hE : s.msgsD = (if s.phase = "frozen" then (List.range s.pieces.length).map s.pcD else []) ++ (if s.phase = "given" then [PyData.tuple [oID s.goal, (Msg.go (s.hop + 1) s.tri).d]] else []) ++ (if s.phase = "away" ∧ s.whole = true then [PyData.tuple [oID s.frm, (Msg.whole s.hop s.tri).d]] else []) ++ (match s.came with | none => [] | some c => [cameD (some c)]) := hE
    generalize (if s.phase = "frozen" then (List.range s.pieces.length).map s.pcD else []) = ds2 at m2 l2 hE
    refine q_whenS (b := decide (s.phase = "given")) (fun σ' H' => MsP p f0 H (ds2 ++ if s.phase = "given" then [PyData.tuple [oID s.goal, (Msg.go (s.hop + 1) s.tri).d]] else []) σ' H') ?_ (fun c H3 e3 N q => ?_) (fun c H3 e3 => ?_) fun σ3 H3 m3 => ?_
    · obtain ⟨v2, v3, v4, rfl⟩ := m2.st
      apply et_is; walk_at "et"
      simp
    · obtain ⟨v2, v3, v4, rfl⟩ := m2.st
      have h3 := h2.ex e3
      refine (m2.ex' e3).app hf (d := .tuple [oID s.goal, (Msg.go (s.hop + 1) s.tri).d]) (by simp [noL, noLs, noL_oID, noL_msg]) (by omega) ?_ fun H4 m4 => q _ _ ?_
      · exact ed_tup (da_cons (ed_ev (by walk_at "ev") (oI_da _)) (da_cons (ed_tup (da_cons (ed_ev ev_c (.str _)) (da_cons (ed_ev (by walk_at "ev") (.int _)) (da_cons (ed_ev (by walk_at "ev") (.int _)) da_nil))) (of_decide_eq_true rfl)) da_nil)) (of_decide_eq_true rfl)
      · rw [if_pos (of_decide_eq_true c)]
        exact m4
    · rw [if_neg (of_decide_eq_false c), List.append_nil]
      exact m2.ex' e3
    have l3 : (ds2 ++ if s.phase = "given" then [PyData.tuple [oID s.goal, (Msg.go (s.hop + 1) s.tri).d]] else []).length ≤ 1001 := by
      rw [List.length_append]
      split
      · show _ + 1 ≤ _; omega
      · show _ + 0 ≤ _; omega
    have h3 := h0.ex m3.ex
    generalize (ds2 ++ if s.phase = "given" then [PyData.tuple [oID s.goal, (Msg.go (s.hop + 1) s.tri).d]] else []) = ds3 at m3 l3 hE
    refine q_whenS (b := decide (s.phase = "away" ∧ s.whole = true)) (fun σ' H' => MsP p f0 H (ds3 ++ if s.phase = "away" ∧ s.whole = true then [PyData.tuple [oID s.frm, (Msg.whole s.hop s.tri).d]] else []) σ' H') ?_ (fun c H4 e4 N q => ?_) (fun c H4 e4 => ?_) fun σ4 H4 m4 => ?_
    · obtain ⟨v2, v3, v4, rfl⟩ := m3.st
      refine et_is (et_and (by walk_at "et") fun _ => et_B (ev_get (f := fun s => .bl s.whole) (ev_var rfl) h3.host)) ?_
      rw [Bool.eq_iff_iff]; simp
    · obtain ⟨v2, v3, v4, rfl⟩ := m3.st
      have h4 := h3.ex e4
      refine (m3.ex' e4).app hf (d := .tuple [oID s.frm, (Msg.whole s.hop s.tri).d]) (by simp [noL, noLs, noL_oID, noL_msg]) (by omega) ?_ fun H5 m5 => q _ _ ?_
      · exact ed_tup (da_cons (ed_ev (by walk_at "ev") (oI_da _)) (da_cons (ed_tup (da_cons (ed_ev ev_c (.str _)) (da_cons (ed_ev (by walk_at "ev") (.int _)) (da_cons (ed_ev (by walk_at "ev") (.int _)) da_nil))) (of_decide_eq_true rfl)) da_nil)) (of_decide_eq_true rfl)
      · rw [if_pos (of_decide_eq_true c)]
        exact m5
    · rw [if_neg (of_decide_eq_false c), List.append_nil]
      exact m3.ex' e4
    have l4 : (ds3 ++ if s.phase = "away" ∧ s.whole = true then [PyData.tuple [oID s.frm, (Msg.whole s.hop s.tri).d]] else []).length ≤ 1002 := by
      rw [List.length_append]
      split
      · show _ + 1 ≤ _; omega
      · show _ + 0 ≤ _; omega
    have h4 := h0.ex m4.ex
    generalize (ds3 ++ if s.phase = "away" ∧ s.whole = true then [PyData.tuple [oID s.frm, (Msg.whole s.hop s.tri).d]] else []) = ds4 at m4 l4 hE
    obtain ⟨⟨v2, v3, v4, rfl⟩, ⟨xs, hx1, hx2⟩, hn4, he4⟩ := m4
    refine s_retCat (ys := match s.came with | none => [] | some _ => [cm]) (ev_var rfl) hx1 (el_if (b := !decide (cm = .non)) (et_test (ev_notN (by walk_at "ev"))) (fun c => ?_) (fun c => ?_)) ?_ fun q H5 hq e5 h5 => k q _ H5 (fresh_back he4 hq) (he4.trans e5) h5 ?_
    · cases hc : s.came with
      | none =>
        have := h0.c_
        rw [hc] at this
        rw [this.non_inv] at c
        simp at c
      | some z => exact el_lst (ea_cons (by walk_at "ev") ea_nil) (by show 1 ≤ 100000; decide)
    · cases hc : s.came with
      | none => exact el_lst ea_nil (by show 0 ≤ 100000; decide)
      | some z =>
        have := h0.c_
        rw [hc] at this
        obtain ⟨a, ys, rfl, _⟩ := this.tup_inv
        simp at c
    · have := hx2.length
      split
      · show _ + 0 ≤ _; omega
      · show _ + 1 ≤ _; omega
    · rw [hE]
      refine (hx2.ex e5).append ?_
      have hc := (h4.c_).ex e5
      cases hz : s.came with
      | none => exact .nil
      | some z => rw [hz] at hc; exact DaAll.one hc
end
end Rel
end
section
open PySem PySem.Spec PyProof.Rows L2 Evl Rel
local macro_rules | `(tactic| walk_at "hp") => `(tactic| first | assumption | exact upd_same)
local macro_rules | `(tactic| walk_at "mem") => `(tactic| first | exact List.Mem.head _ | exact List.Mem.tail _ (List.Mem.head _) | exact List.Mem.tail _ (List.Mem.tail _ (List.Mem.head _)) | exact List.Mem.tail _ (List.Mem.tail _ (List.Mem.tail _ (List.Mem.head _))))
local macro_rules | `(tactic| walk_at "rc") => `(tactic| first | exact rc_int1 | exact rc_intB | exact rc_abs | exact rc_lenL (sq_of (by assumption)) | exact rc_lenT (st_of (by assumption)) | exact rc_lenL (by assumption) | exact rc_lenT (by assumption))
local macro_rules | `(tactic| walk_at "rv") => `(tactic| first | exact rv_I0 | (refine' rv_I ?_; omega) | (refine' rv_I ?_; first | exact ⟨by omega, by omega⟩ | exact .inl ⟨by omega, by omega⟩ | exact .inr ⟨by omega, by omega⟩) | exact rv_ixL (sq_of (by assumption)) rfl | exact rv_ixL (by assumption) rfl | exact rv_ixT (st_of (by assumption)) rfl | exact rv_ixT (by assumption) rfl | exact rv_eq rfl | exact rv_ne rfl)
local macro_rules | `(tactic| walk_at "ed") => `(tactic| first
  | exact ed_var rfl (by assumption)
  | exact ed_ev (ev_var rfl) (.int _)
  | exact ed_ev (ev_var rfl) (.str _)
  | exact ed_ev ev_c .non
  | exact ed_ev ev_c (.bl _)
  | exact ed_ev ev_c (.int _)
  | exact ed_ev ev_c (.str _)
  | (apply ed_ixT; walk_at "ed"; exact ev_c; rfl; rfl)
  | (apply ed_ixL; walk_at "ed"; exact ev_c; rfl; rfl)
  | (apply ed_tup; walk_at "da"; exact of_decide_eq_true rfl)
  | (apply ed_lst; walk_at "da"; exact of_decide_eq_true rfl))
local macro_rules | `(tactic| walk_at "da") => `(tactic| first
  | exact da_nil
  | (apply da_cons; walk_at "ed"; walk_at "da"))
local macro_rules | `(tactic| walk_at "ev") => `(tactic| first
  | exact ev_c
  | (apply ev_is1; walk_at "ed"; simp)
  | (apply ev_is2; walk_at "ed"; simp; simp)
  | (apply ev_ninC; walk_at "ev"; exact ev_c; walk_at "mem")
  | (apply ev_ixC; exact ev_c; walk_at "ev"; walk_at "mem")
  | (apply ev_edI; apply ed_ixT; walk_at "ed"; exact ev_c; rfl; rfl)
  | (apply ev_edS; apply ed_ixT; walk_at "ed"; exact ev_c; rfl; rfl)
  | (apply ev_chain; walk_at "ev"; walk_at "ev"; walk_at "rv"; (intro _; walk_at "ev"); (intro _; walk_at "rv"))
  | (apply ev_notV; walk_at "ev")
  | (apply ev_andV; walk_at "ev"; (intro _; walk_at "ev"))
  | exact ev_lenL (ed_var rfl (by assumption))
  | (apply ev_edB; apply ed_call; walk_at "da"; apply spFun_D; first | trivial | assumption)
  | exact ev_lenT (ed_var rfl (by assumption))
  | (apply ev_isND; walk_at "ed")
  | (apply ev_notND; walk_at "ed")
  | (apply ev_isN; walk_at "ev")
  | (apply ev_notN; walk_at "ev")
  | exact ev_var rfl
  | (apply ev_op; walk_at "ev"; walk_at "ev"; walk_at "rv")
  | (apply ev_un; walk_at "ev"; exact ru_neg)
  | (apply ev_cb; walk_at "ea"; walk_at "rc"))
local macro_rules | `(tactic| walk_at "ea") => `(tactic| first
  | exact ea_nil
  | (apply ea_cons; walk_at "ev"; walk_at "ea"))
local macro_rules | `(tactic| walk_at "et") => `(tactic| first
  | (apply et_test; walk_at "ev")
  | (apply et_B; walk_at "ev")
  | (apply et_or; walk_at "et"; (intro _; walk_at "et"))
  | (apply et_and; walk_at "et"; (intro _; walk_at "et"))
  | (apply et_not; walk_at "et"))
local macro_rules | `(tactic| walk_at "evr") => `(tactic| (apply ev_is; walk_at "ev"; rfl))
local macro_rules | `(tactic| walk_at "etr") => `(tactic| (first | apply et_B | apply et_test); (apply ev_is; walk_at "ev"; rfl))
local macro_rules | `(tactic| walk_at "evs") => `(tactic| (apply ev_is; walk_at "ev"; simp [isiB, tyN]))
local macro_rules | `(tactic| walk_at "ets") => `(tactic| (apply et_is; walk_at "et"; simp [isiB, tyN]))
local macro_rules | `(tactic| walk_at "etr1") => `(tactic| (apply et_is; walk_at "et"; rfl))
local macro_rules | `(tactic| walk_at "rv") => `(tactic| first | exact rv_eq (scal_iO _ _) | exact rv_ne (scal_iO _ _) | exact rv_eq (scal_Oi _ _) | exact rv_ne (scal_Oi _ _))
local macro_rules | `(tactic| walk_at "etk") => `(tactic| (apply et_is; walk_at "et"; kernel_rfl))
local macro_rules | `(tactic| walk_at "fl") => `(tactic| first
  | (apply ev_fld (hn := (‹Txt _ _ _›).oHost_own_number) (hl := fl_number); exact ev_var rfl; (first | assumption | exact HA.p_ (by assumption)); exact (‹Txt _ _ _›).cHost)
  | (apply ev_fld (hn := (‹Txt _ _ _›).oHost_own_phase) (hl := fl_phase); exact ev_var rfl; (first | assumption | exact HA.p_ (by assumption)); exact (‹Txt _ _ _›).cHost)
  | (apply ev_fld (hn := (‹Txt _ _ _›).oHost_own_hop) (hl := fl_hop); exact ev_var rfl; (first | assumption | exact HA.p_ (by assumption)); exact (‹Txt _ _ _›).cHost)
  | (apply ev_fld (hn := (‹Txt _ _ _›).oHost_own_try) (hl := fl_try); exact ev_var rfl; (first | assumption | exact HA.p_ (by assumption)); exact (‹Txt _ _ _›).cHost)
  | (apply ev_fld (hn := (‹Txt _ _ _›).oHost_own_text) (hl := fl_text); exact ev_var rfl; (first | assumption | exact HA.p_ (by assumption)); exact (‹Txt _ _ _›).cHost)
  | (apply ev_fld (hn := (‹Txt _ _ _›).oHost_own_goal) (hl := fl_goal); exact ev_var rfl; (first | assumption | exact HA.p_ (by assumption)); exact (‹Txt _ _ _›).cHost)
  | (apply ev_fld (hn := (‹Txt _ _ _›).oHost_own_pieces) (hl := fl_pieces); exact ev_var rfl; (first | assumption | exact HA.p_ (by assumption)); exact (‹Txt _ _ _›).cHost)
  | (apply ev_fld (hn := (‹Txt _ _ _›).oHost_own_taken) (hl := fl_taken); exact ev_var rfl; (first | assumption | exact HA.p_ (by assumption)); exact (‹Txt _ _ _›).cHost)
  | (apply ev_fld (hn := (‹Txt _ _ _›).oHost_own_from) (hl := fl_from); exact ev_var rfl; (first | assumption | exact HA.p_ (by assumption)); exact (‹Txt _ _ _›).cHost)
  | (apply ev_fld (hn := (‹Txt _ _ _›).oHost_own_many) (hl := fl_many); exact ev_var rfl; (first | assumption | exact HA.p_ (by assumption)); exact (‹Txt _ _ _›).cHost)
  | (apply ev_fld (hn := (‹Txt _ _ _›).oHost_own_came) (hl := fl_came); exact ev_var rfl; (first | assumption | exact HA.p_ (by assumption)); exact (‹Txt _ _ _›).cHost))
local macro_rules | `(tactic| walk_at "ev") => `(tactic| walk_at "fl")
namespace Rel
open PySem PySem.Spec PyProof.Rows L2 Evl
section
variable {P : Program} {w : World} {K : PySem.W.Frag} {mg : Str → Option Value} {base : Heap}
theorem ok_Host___init__ {f : Addr} {fd : FuncData} (F : FnP K "__init__" "Host.__init__" sHost___init__ f fd) (T : Txt K mg w)
    (Fis_number : Fx P w K mg base CX0 "is_number" ["thing"] 1 (spFun (fun d => .bool (isIntD d)) fun _ => True)) : FnOk P w K mg base CX0 2 f fd ["self", "number"] (spInit T.aHost) := by
  refine F.ok scHost___init__ (fun vs H Q E h => ?_) (fun cdv A outer s H vs Q E hr h => ?_)
  · obtain ⟨_, _, _, rfl, _⟩ := h
    rfl
  · obtain ⟨p, dx, n, rfl, hp, hn, k⟩ := h
    have nd := scHost___init__.nd
    refine ⟨_, PSs.nox (pss_cons (ps_if (PW.pt (pw_or (pt_not (pt_val (pe_call Fis_number.ok (hr.mono (by first | decide | omega)) rfl Fis_number.g Fis_number.kp Fis_number.b .nil pass0 (pa_cons (pv 1) pa_nil)))) (pw_or1 (pt_cmpR op_lt (pv 1) pe_int (nomark _))))) (pss_one ps_never) pss_nil)
  (pss_cons (ps_fld (pv 0) (pv 1) rfl)
  (pss_cons (ps_fld (pv 0) (pe_glob (v := .str "away") rfl T.gAWAY ⟨_, rfl⟩) rfl)
  (pss_cons (ps_fld (pv 0) pe_int rfl)
  (pss_cons (ps_fld (pv 0) pe_int rfl)
  (pss_cons (ps_fld (pv 0) pe_non rfl)
  (pss_cons (ps_fld (pv 0) pe_non rfl)
  (pss_cons (ps_fld (pv 0) (pe_lst pa_nil) rfl)
  (pss_cons (ps_fld (pv 0) pe_dnewK rfl)
  (pss_cons (ps_fld (pv 0) pe_non rfl)
  (pss_cons (ps_fld (pv 0) pe_int rfl)
  (pss_one (ps_fld (pv 0) pe_non rfl))))))))))))), ?_⟩
    have hd : Da N0 H (.int n) (.int n) := .int n
    refine q_when (b := false) ?_ (fun z => nomatch z) fun _ H1 e1 => ?_
    · apply et_is; walk_at "et"
      rw [decide_eq_false (by omega : ¬ n < 0)]; rfl
    refine q_fld (v := .int n) (ev_var rfl) (ev_var rfl) (e1 _ _ hp) T.cHost T.oHost_own_number (of_decide_eq_true rfl) fun Ha ha ba => ?_
    refine q_fld (v := .str "away") ev_c (ev_var rfl) ha T.cHost T.oHost_own_phase (of_decide_eq_true rfl) fun Hb hb bb => ?_
    refine q_fld (v := .int 0) ev_c (ev_var rfl) hb T.cHost T.oHost_own_hop (of_decide_eq_true rfl) fun Hc hc bc => ?_
    refine q_fld (v := .int 0) ev_c (ev_var rfl) hc T.cHost T.oHost_own_try (of_decide_eq_true rfl) fun Hd hd bd => ?_
    refine q_fld (v := .non) ev_c (ev_var rfl) hd T.cHost T.oHost_own_text (of_decide_eq_true rfl) fun He he be => ?_
    refine q_fld (v := .non) ev_c (ev_var rfl) he T.cHost T.oHost_own_goal (of_decide_eq_true rfl) fun Hf hf bf => ?_
    refine q_fldL (el_lst ea_nil (by show 0 ≤ 100000; decide)) (ev_var rfl) hf T.cHost T.oHost_own_pieces (of_decide_eq_true rfl) fun pl Hg hpl hpl1 hg bg => ?_
    refine q_fldK (ev_var rfl) hg T.cHost T.oHost_own_taken (of_decide_eq_true rfl) (k := fun td Hh htd htd1 hh bh => ?_)
    refine q_fld (v := .non) ev_c (ev_var rfl) hh T.cHost T.oHost_own_from (of_decide_eq_true rfl) fun Hi hi bi => ?_
    refine q_fld (v := .int 0) ev_c (ev_var rfl) hi T.cHost T.oHost_own_many (of_decide_eq_true rfl) fun Hj hj bj => ?_
    refine s_fld (v := .non) ev_c (ev_var rfl) hj T.cHost T.oHost_own_came (of_decide_eq_true rfl) fun Hk hk bk => ?_
    have b0 : But p H Hf := (((((But.of_ex e1).trans ba).trans bb).trans bc).trans bd |>.trans be).trans bf
    have b1 : But p Hg Hk := ((bh.trans bi).trans bj).trans bk
    have b2 : But p Hh Hk := (bi.trans bj).trans bk
    have hpp : pl ≠ p := by rintro rfl; rw [hf] at hpl; cases hpl
    have htp : td ≠ p := by rintro rfl; rw [hg] at htd; cases htd
    have hb : ∀ q H', But p H H' → q ≠ p → H' q = none → H q = none := fun q H' b n h => by
      cases h0 : H q with
      | none => rfl
      | some o => rw [b q o n h0] at h; cases h
    refine k td pl Hk ⟨⟨dx, .non, ?_, .non⟩, b2 _ _ htp htd1, b1 _ _ hpp hpl1⟩ (hb td Hg (b0.trans bg) htp htd) (hb pl Hf b0 hpp hpl) ((b0.trans bg).trans b1)
    rw [hk]
    kernel_rfl
end
end Rel
end
section
open PySem PySem.Spec PyProof.Rows L2 Evl Rel
local macro_rules | `(tactic| walk_at "hp") => `(tactic| first | assumption | exact upd_same)
local macro_rules | `(tactic| walk_at "mem") => `(tactic| first | exact List.Mem.head _ | exact List.Mem.tail _ (List.Mem.head _) | exact List.Mem.tail _ (List.Mem.tail _ (List.Mem.head _)) | exact List.Mem.tail _ (List.Mem.tail _ (List.Mem.tail _ (List.Mem.head _))))
local macro_rules | `(tactic| walk_at "rc") => `(tactic| first | exact rc_int1 | exact rc_intB | exact rc_abs | exact rc_lenL (sq_of (by assumption)) | exact rc_lenT (st_of (by assumption)) | exact rc_lenL (by assumption) | exact rc_lenT (by assumption))
local macro_rules | `(tactic| walk_at "rv") => `(tactic| first | exact rv_I0 | (refine' rv_I ?_; omega) | (refine' rv_I ?_; first | exact ⟨by omega, by omega⟩ | exact .inl ⟨by omega, by omega⟩ | exact .inr ⟨by omega, by omega⟩) | exact rv_ixL (sq_of (by assumption)) rfl | exact rv_ixL (by assumption) rfl | exact rv_ixT (st_of (by assumption)) rfl | exact rv_ixT (by assumption) rfl | exact rv_eq rfl | exact rv_ne rfl)
local macro_rules | `(tactic| walk_at "ed") => `(tactic| first
  | exact ed_var rfl (by assumption)
  | exact ed_ev (ev_var rfl) (.int _)
  | exact ed_ev (ev_var rfl) (.str _)
  | exact ed_ev ev_c .non
  | exact ed_ev ev_c (.bl _)
  | exact ed_ev ev_c (.int _)
  | exact ed_ev ev_c (.str _)
  | (apply ed_ixT; walk_at "ed"; exact ev_c; rfl; rfl)
  | (apply ed_ixL; walk_at "ed"; exact ev_c; rfl; rfl)
  | (apply ed_tup; walk_at "da"; exact of_decide_eq_true rfl)
  | (apply ed_lst; walk_at "da"; exact of_decide_eq_true rfl))
local macro_rules | `(tactic| walk_at "da") => `(tactic| first
  | exact da_nil
  | (apply da_cons; walk_at "ed"; walk_at "da"))
local macro_rules | `(tactic| walk_at "ev") => `(tactic| first
  | exact ev_c
  | (apply ev_is1; walk_at "ed"; simp)
  | (apply ev_is2; walk_at "ed"; simp; simp)
  | (apply ev_ninC; walk_at "ev"; exact ev_c; walk_at "mem")
  | (apply ev_ixC; exact ev_c; walk_at "ev"; walk_at "mem")
  | (apply ev_edI; apply ed_ixT; walk_at "ed"; exact ev_c; rfl; rfl)
  | (apply ev_edS; apply ed_ixT; walk_at "ed"; exact ev_c; rfl; rfl)
  | (apply ev_chain; walk_at "ev"; walk_at "ev"; walk_at "rv"; (intro _; walk_at "ev"); (intro _; walk_at "rv"))
  | (apply ev_notV; walk_at "ev")
  | (apply ev_andV; walk_at "ev"; (intro _; walk_at "ev"))
  | exact ev_lenL (ed_var rfl (by assumption))
  | (apply ev_edB; apply ed_call; walk_at "da"; apply spFun_D; first | trivial | assumption)
  | exact ev_lenT (ed_var rfl (by assumption))
  | (apply ev_isND; walk_at "ed")
  | (apply ev_notND; walk_at "ed")
  | (apply ev_isN; walk_at "ev")
  | (apply ev_notN; walk_at "ev")
  | exact ev_var rfl
  | (apply ev_op; walk_at "ev"; walk_at "ev"; walk_at "rv")
  | (apply ev_un; walk_at "ev"; exact ru_neg)
  | (apply ev_cb; walk_at "ea"; walk_at "rc"))
local macro_rules | `(tactic| walk_at "ea") => `(tactic| first
  | exact ea_nil
  | (apply ea_cons; walk_at "ev"; walk_at "ea"))
local macro_rules | `(tactic| walk_at "et") => `(tactic| first
  | (apply et_test; walk_at "ev")
  | (apply et_B; walk_at "ev")
  | (apply et_or; walk_at "et"; (intro _; walk_at "et"))
  | (apply et_and; walk_at "et"; (intro _; walk_at "et"))
  | (apply et_not; walk_at "et"))
local macro_rules | `(tactic| walk_at "evr") => `(tactic| (apply ev_is; walk_at "ev"; rfl))
local macro_rules | `(tactic| walk_at "etr") => `(tactic| (first | apply et_B | apply et_test); (apply ev_is; walk_at "ev"; rfl))
local macro_rules | `(tactic| walk_at "evs") => `(tactic| (apply ev_is; walk_at "ev"; simp [isiB, tyN]))
local macro_rules | `(tactic| walk_at "ets") => `(tactic| (apply et_is; walk_at "et"; simp [isiB, tyN]))
local macro_rules | `(tactic| walk_at "etr1") => `(tactic| (apply et_is; walk_at "et"; rfl))
local macro_rules | `(tactic| walk_at "rv") => `(tactic| first | exact rv_eq (scal_iO _ _) | exact rv_ne (scal_iO _ _) | exact rv_eq (scal_Oi _ _) | exact rv_ne (scal_Oi _ _))
local macro_rules | `(tactic| walk_at "etk") => `(tactic| (apply et_is; walk_at "et"; kernel_rfl))
local macro_rules | `(tactic| walk_at "fl") => `(tactic| first
  | (apply ev_fld (hn := (‹Txt _ _ _›).oHost_own_number) (hl := fl_number); exact ev_var rfl; (first | assumption | exact HA.p_ (by assumption)); exact (‹Txt _ _ _›).cHost)
  | (apply ev_fld (hn := (‹Txt _ _ _›).oHost_own_phase) (hl := fl_phase); exact ev_var rfl; (first | assumption | exact HA.p_ (by assumption)); exact (‹Txt _ _ _›).cHost)
  | (apply ev_fld (hn := (‹Txt _ _ _›).oHost_own_hop) (hl := fl_hop); exact ev_var rfl; (first | assumption | exact HA.p_ (by assumption)); exact (‹Txt _ _ _›).cHost)
  | (apply ev_fld (hn := (‹Txt _ _ _›).oHost_own_try) (hl := fl_try); exact ev_var rfl; (first | assumption | exact HA.p_ (by assumption)); exact (‹Txt _ _ _›).cHost)
  | (apply ev_fld (hn := (‹Txt _ _ _›).oHost_own_text) (hl := fl_text); exact ev_var rfl; (first | assumption | exact HA.p_ (by assumption)); exact (‹Txt _ _ _›).cHost)
  | (apply ev_fld (hn := (‹Txt _ _ _›).oHost_own_goal) (hl := fl_goal); exact ev_var rfl; (first | assumption | exact HA.p_ (by assumption)); exact (‹Txt _ _ _›).cHost)
  | (apply ev_fld (hn := (‹Txt _ _ _›).oHost_own_pieces) (hl := fl_pieces); exact ev_var rfl; (first | assumption | exact HA.p_ (by assumption)); exact (‹Txt _ _ _›).cHost)
  | (apply ev_fld (hn := (‹Txt _ _ _›).oHost_own_taken) (hl := fl_taken); exact ev_var rfl; (first | assumption | exact HA.p_ (by assumption)); exact (‹Txt _ _ _›).cHost)
  | (apply ev_fld (hn := (‹Txt _ _ _›).oHost_own_from) (hl := fl_from); exact ev_var rfl; (first | assumption | exact HA.p_ (by assumption)); exact (‹Txt _ _ _›).cHost)
  | (apply ev_fld (hn := (‹Txt _ _ _›).oHost_own_many) (hl := fl_many); exact ev_var rfl; (first | assumption | exact HA.p_ (by assumption)); exact (‹Txt _ _ _›).cHost)
  | (apply ev_fld (hn := (‹Txt _ _ _›).oHost_own_came) (hl := fl_came); exact ev_var rfl; (first | assumption | exact HA.p_ (by assumption)); exact (‹Txt _ _ _›).cHost))
local macro_rules | `(tactic| walk_at "ev") => `(tactic| walk_at "fl")
namespace Rel
open PySem PySem.Spec PyProof.Rows L2 Evl
theorem take_at {σ : L2.St} {H : Hp} {te tb : TE} {p : Addr} {b n : Int} {E : XK} {Q : VK} (h : Ev te σ H (.ref p)) (hn : Ev tb σ H (.int n)) (t : Tin H p b) (hb : b < 10 ^ 9) (h0 : 0 < n) (h1 : n < 2 ^ 30)
    (k : ∀ (r : Int) H', 0 ≤ r → r < n → Tin H' p (b + 1) → But p H H' → Q (.int r) H') : tCall spTake [] E (tCons te (tCons tb tNil)) σ H Q :=
  h H (Ex.refl H) _ fun H1 e1 => hn H1 e1 _ fun H2 e2 => by
    obtain ⟨A, B, C, g1, g2, g3, g4, g5, g6⟩ := t.ex (e1.trans e2)
    refine ⟨p, A, B, C, n, rfl, g1, g2, g3, g4, g5, by omega, h0, h1, fun r A' C' H' r0 r1 a0 c0 c1 hp b' => k r H' r0 r1 ⟨A', B, C', hp, a0, g3, g4, by omega, by omega⟩ ((But.of_ex (e1.trans e2)).trans b')⟩
def spOf : Sp := fun vs H Q _ => ∃ (p l : Addr) (b : Int) (xs : List V), vs = [.ref p, .ref l] ∧ Tin H p b ∧ b < 10 ^ 9 ∧ H l = some (.lst xs) ∧ p ≠ l ∧ xs ≠ [] ∧ xs.length < 2 ^ 30 ∧
  ∀ (x : V) H', x ∈ xs → Tin H' p (b + 1) → But p H H' → Q x H'
def spMixed : Sp := fun vs H Q _ => ∃ (p l : Addr) (b : Int) (xs : List V), vs = [.ref p, .ref l] ∧ Tin H p b ∧ b + xs.length < 10 ^ 9 ∧ H l = some (.lst xs) ∧ p ≠ l ∧ xs.length ≤ 30000 ∧
  ∀ (ys : List V) q H', ys.Perm xs → H q = none → H' q = some (.lst ys) → Tin H' p (b + xs.length) → But p H H' → Q (.ref q) H'
def spCut : Sp := fun vs H Q _ => ∃ (z : Str) (n : Int), vs = [.str z, .int n] ∧ 0 < z.length ∧ z.length ≤ 1000 ∧ 1 ≤ n ∧ n ≤ 1000 ∧
  ∀ v H', Ex H H' → Da N0 H' v (.list ((chunks z n).map PyData.str)) → Q v H'
section
variable {P : Program} {w : World} {K : PySem.W.Frag} {mg : Str → Option Value} {base : Heap}
theorem ok_cut {f : Addr} {fd : FuncData} (F : FnP K "cut" "cut" scut f fd) (T : Txt K mg w) : FnOk P w K mg base CX0 1 f fd ["text", "size"] spCut := by
  refine F.ok sccut (fun vs H Q E h => ?_) (fun cdv A outer s H vs Q E hr h => ?_)
  · obtain ⟨_, _, rfl, _⟩ := h
    rfl
  · obtain ⟨z, n, rfl, z0, z1, n0, n1, k⟩ := h
    have nd := sccut.nd
    refine ⟨_, PSs.nox (pss_cons (ps_setLc (i := 3) (own := [("begin", 2)]) rfl nd rfl rfl (sw_true rfl rfl rfl (by decide +kernel)) (pi_range3 rfl T.n_range (pa_cons pe_int (pa_cons (pe_callB (kc_len (K := K) rfl) rfl T.n_len (by decide +kernel) (pa_cons (pv 0) pa_nil)) (pa_cons (pv 1) pa_nil)))) (blkOk_by (N := ncut) (sc := defScope scut) (by decide +kernel)) (fun _ _ _ _ _ => (pg_name (i := 2) nd rfl (Or.inl rfl))) (fun _ _ _ _ _ => pts_nil) (fun _ _ _ _ _ => (pe_slice sl_str (pv 0) (po_some (pv 2)) (po_some (pe_op op_add (pv 2) (pv 1))))))
  (pss_one (ps_ret (pe_ifExp (pt_cmpR op_gt (pe_callB (kc_len (K := K) rfl) rfl T.n_len (by decide +kernel) (pa_cons (pv 3) pa_nil)) pe_int (nomark _)) (pv 3) (pe_lst (pa_cons pe_str pa_nil)))))), ?_⟩
    have e : (.list ((chunks z n).map PyData.str) : PyData) = .list (givenD (chN z n) (fun _ => true) fun i => .str (chunk z n i)) := by rw [givenD_all]; unfold chunks; rw [List.map_map]; rfl
    obtain ⟨c1, c2, c3⟩ := chN_ge n0 z0
    refine q_asgD (d := .list ((chunks z n).map PyData.str)) ?_ fun v H1 e1 hv => ?_
    · rw [e]
      refine ed_lcC (a := 0) (b := z.length) (c := n) (n := chN z n) (ea_cons ev_c (ea_cons (ev_cb (ea_cons (ev_var rfl) ea_nil) (rc_lenS (Nat.le_trans z1 (by decide)))) (ea_cons (ev_var rfl) ea_nil))) (by omega) ?_ (fun _ => rfl) _ _ (fun i hi => et_yes) fun i hi _ => ?_
      · refine ⟨by omega, by omega, ?_, ?_⟩
        · have hq : Builtin.Range.rangeSize 0 z.length n = (chN z n : Int) := by unfold chN; exact rangeSize_toNat _ _ _
          unfold Builtin.Range.small
          rw [hq]
          simp only [Builtin.Range.rangeFitsLong, Bool.and_eq_true, Bool.or_eq_true, decide_eq_true_eq, beq_iff_eq]
          refine ⟨by omega, .inr ?_⟩
          rw [if_pos (by omega), Bool.and_eq_true, decide_eq_true_eq, decide_eq_true_eq]
          omega
        · unfold chN
          exact rangeSize_toNat _ _ _
      · exact ed_ev (ev_cutS (ev_var rfl) (eo_some (ev_var rfl)) (eo_some (ev_op (ev_var rfl) (ev_var rfl) rv_I0)) (by omega)) (.str _)
    refine s_retD (d := .list ((chunks z n).map PyData.str)) (ed_if (b := true) ?_ (fun _ => ed_var rfl hv) (fun z => nomatch z)) fun v H2 e2 hv => k v H2 (e1.trans e2) hv
    refine et_is (et_test (ev_op (ev_lenL (ed_var rfl hv)) ev_c rv_I0)) ?_
    rw [List.length_map, chunks_len]
    exact decide_eq_true (by omega)
end
end Rel
end
section
open PySem PySem.Spec PyProof.Rows L2 Evl Rel
local macro_rules | `(tactic| walk_at "hp") => `(tactic| first | assumption | exact upd_same)
local macro_rules | `(tactic| walk_at "mem") => `(tactic| first | exact List.Mem.head _ | exact List.Mem.tail _ (List.Mem.head _) | exact List.Mem.tail _ (List.Mem.tail _ (List.Mem.head _)) | exact List.Mem.tail _ (List.Mem.tail _ (List.Mem.tail _ (List.Mem.head _))))
local macro_rules | `(tactic| walk_at "rc") => `(tactic| first | exact rc_int1 | exact rc_intB | exact rc_abs | exact rc_lenL (sq_of (by assumption)) | exact rc_lenT (st_of (by assumption)) | exact rc_lenL (by assumption) | exact rc_lenT (by assumption))
local macro_rules | `(tactic| walk_at "rv") => `(tactic| first | exact rv_I0 | (refine' rv_I ?_; omega) | (refine' rv_I ?_; first | exact ⟨by omega, by omega⟩ | exact .inl ⟨by omega, by omega⟩ | exact .inr ⟨by omega, by omega⟩) | exact rv_ixL (sq_of (by assumption)) rfl | exact rv_ixL (by assumption) rfl | exact rv_ixT (st_of (by assumption)) rfl | exact rv_ixT (by assumption) rfl | exact rv_eq rfl | exact rv_ne rfl)
local macro_rules | `(tactic| walk_at "ed") => `(tactic| first
  | exact ed_var rfl (by assumption)
  | exact ed_ev (ev_var rfl) (.int _)
  | exact ed_ev (ev_var rfl) (.str _)
  | exact ed_ev ev_c .non
  | exact ed_ev ev_c (.bl _)
  | exact ed_ev ev_c (.int _)
  | exact ed_ev ev_c (.str _)
  | (apply ed_ixT; walk_at "ed"; exact ev_c; rfl; rfl)
  | (apply ed_ixL; walk_at "ed"; exact ev_c; rfl; rfl)
  | (apply ed_tup; walk_at "da"; exact of_decide_eq_true rfl)
  | (apply ed_lst; walk_at "da"; exact of_decide_eq_true rfl))
local macro_rules | `(tactic| walk_at "da") => `(tactic| first
  | exact da_nil
  | (apply da_cons; walk_at "ed"; walk_at "da"))
local macro_rules | `(tactic| walk_at "ev") => `(tactic| first
  | exact ev_c
  | (apply ev_is1; walk_at "ed"; simp)
  | (apply ev_is2; walk_at "ed"; simp; simp)
  | (apply ev_ninC; walk_at "ev"; exact ev_c; walk_at "mem")
  | (apply ev_ixC; exact ev_c; walk_at "ev"; walk_at "mem")
  | (apply ev_edI; apply ed_ixT; walk_at "ed"; exact ev_c; rfl; rfl)
  | (apply ev_edS; apply ed_ixT; walk_at "ed"; exact ev_c; rfl; rfl)
  | (apply ev_chain; walk_at "ev"; walk_at "ev"; walk_at "rv"; (intro _; walk_at "ev"); (intro _; walk_at "rv"))
  | (apply ev_notV; walk_at "ev")
  | (apply ev_andV; walk_at "ev"; (intro _; walk_at "ev"))
  | exact ev_lenL (ed_var rfl (by assumption))
  | (apply ev_edB; apply ed_call; walk_at "da"; apply spFun_D; first | trivial | assumption)
  | exact ev_lenT (ed_var rfl (by assumption))
  | (apply ev_isND; walk_at "ed")
  | (apply ev_notND; walk_at "ed")
  | (apply ev_isN; walk_at "ev")
  | (apply ev_notN; walk_at "ev")
  | exact ev_var rfl
  | (apply ev_op; walk_at "ev"; walk_at "ev"; walk_at "rv")
  | (apply ev_un; walk_at "ev"; exact ru_neg)
  | (apply ev_cb; walk_at "ea"; walk_at "rc"))
local macro_rules | `(tactic| walk_at "ea") => `(tactic| first
  | exact ea_nil
  | (apply ea_cons; walk_at "ev"; walk_at "ea"))
local macro_rules | `(tactic| walk_at "et") => `(tactic| first
  | (apply et_test; walk_at "ev")
  | (apply et_B; walk_at "ev")
  | (apply et_or; walk_at "et"; (intro _; walk_at "et"))
  | (apply et_and; walk_at "et"; (intro _; walk_at "et"))
  | (apply et_not; walk_at "et"))
local macro_rules | `(tactic| walk_at "evr") => `(tactic| (apply ev_is; walk_at "ev"; rfl))
local macro_rules | `(tactic| walk_at "etr") => `(tactic| (first | apply et_B | apply et_test); (apply ev_is; walk_at "ev"; rfl))
local macro_rules | `(tactic| walk_at "evs") => `(tactic| (apply ev_is; walk_at "ev"; simp [isiB, tyN]))
local macro_rules | `(tactic| walk_at "ets") => `(tactic| (apply et_is; walk_at "et"; simp [isiB, tyN]))
local macro_rules | `(tactic| walk_at "etr1") => `(tactic| (apply et_is; walk_at "et"; rfl))
local macro_rules | `(tactic| walk_at "rv") => `(tactic| first | exact rv_eq (scal_iO _ _) | exact rv_ne (scal_iO _ _) | exact rv_eq (scal_Oi _ _) | exact rv_ne (scal_Oi _ _))
local macro_rules | `(tactic| walk_at "etk") => `(tactic| (apply et_is; walk_at "et"; kernel_rfl))
local macro_rules | `(tactic| walk_at "fl") => `(tactic| first
  | (apply ev_fld (hn := (‹Txt _ _ _›).oHost_own_number) (hl := fl_number); exact ev_var rfl; (first | assumption | exact HA.p_ (by assumption)); exact (‹Txt _ _ _›).cHost)
  | (apply ev_fld (hn := (‹Txt _ _ _›).oHost_own_phase) (hl := fl_phase); exact ev_var rfl; (first | assumption | exact HA.p_ (by assumption)); exact (‹Txt _ _ _›).cHost)
  | (apply ev_fld (hn := (‹Txt _ _ _›).oHost_own_hop) (hl := fl_hop); exact ev_var rfl; (first | assumption | exact HA.p_ (by assumption)); exact (‹Txt _ _ _›).cHost)
  | (apply ev_fld (hn := (‹Txt _ _ _›).oHost_own_try) (hl := fl_try); exact ev_var rfl; (first | assumption | exact HA.p_ (by assumption)); exact (‹Txt _ _ _›).cHost)
  | (apply ev_fld (hn := (‹Txt _ _ _›).oHost_own_text) (hl := fl_text); exact ev_var rfl; (first | assumption | exact HA.p_ (by assumption)); exact (‹Txt _ _ _›).cHost)
  | (apply ev_fld (hn := (‹Txt _ _ _›).oHost_own_goal) (hl := fl_goal); exact ev_var rfl; (first | assumption | exact HA.p_ (by assumption)); exact (‹Txt _ _ _›).cHost)
  | (apply ev_fld (hn := (‹Txt _ _ _›).oHost_own_pieces) (hl := fl_pieces); exact ev_var rfl; (first | assumption | exact HA.p_ (by assumption)); exact (‹Txt _ _ _›).cHost)
  | (apply ev_fld (hn := (‹Txt _ _ _›).oHost_own_taken) (hl := fl_taken); exact ev_var rfl; (first | assumption | exact HA.p_ (by assumption)); exact (‹Txt _ _ _›).cHost)
  | (apply ev_fld (hn := (‹Txt _ _ _›).oHost_own_from) (hl := fl_from); exact ev_var rfl; (first | assumption | exact HA.p_ (by assumption)); exact (‹Txt _ _ _›).cHost)
  | (apply ev_fld (hn := (‹Txt _ _ _›).oHost_own_many) (hl := fl_many); exact ev_var rfl; (first | assumption | exact HA.p_ (by assumption)); exact (‹Txt _ _ _›).cHost)
  | (apply ev_fld (hn := (‹Txt _ _ _›).oHost_own_came) (hl := fl_came); exact ev_var rfl; (first | assumption | exact HA.p_ (by assumption)); exact (‹Txt _ _ _›).cHost))
local macro_rules | `(tactic| walk_at "ev") => `(tactic| walk_at "fl")
local macro_rules | `(tactic| walk_at "fl") => `(tactic| first
  | (apply ev_fld (hn := (‹Txt _ _ _›).oGiver_own_phase) (hl := gl_phase); exact ev_var rfl; (first | assumption | exact GA.p_ (by assumption)); exact (‹Txt _ _ _›).cGiver)
  | (apply ev_fld (hn := (‹Txt _ _ _›).oGiver_own_number) (hl := gl_number); exact ev_var rfl; (first | assumption | exact GA.p_ (by assumption)); exact (‹Txt _ _ _›).cGiver)
  | (apply ev_fld (hn := (‹Txt _ _ _›).oGiver_own_is_known) (hl := gl_is_known); exact ev_var rfl; (first | assumption | exact GA.p_ (by assumption)); exact (‹Txt _ _ _›).cGiver)
  | (apply ev_fld (hn := (‹Txt _ _ _›).oGiver_own_pieces) (hl := gl_pieces); exact ev_var rfl; (first | assumption | exact GA.p_ (by assumption)); exact (‹Txt _ _ _›).cGiver)
  | (apply ev_fld (hn := (‹Txt _ _ _›).oTaker_own_number) (hl := kl_number); exact ev_var rfl; (first | assumption | exact KA.p_ (by assumption)); exact (‹Txt _ _ _›).cTaker)
  | (apply ev_fld (hn := (‹Txt _ _ _›).oTaker_own_many) (hl := kl_many); exact ev_var rfl; (first | assumption | exact KA.p_ (by assumption)); exact (‹Txt _ _ _›).cTaker)
  | (apply ev_fld (hn := (‹Txt _ _ _›).oTaker_own_runs) (hl := kl_runs); exact ev_var rfl; (first | assumption | exact KA.p_ (by assumption)); exact (‹Txt _ _ _›).cTaker)
  | (apply ev_fld (hn := (‹Txt _ _ _›).oTaker_own_pieces) (hl := kl_pieces); exact ev_var rfl; (first | assumption | exact KA.p_ (by assumption)); exact (‹Txt _ _ _›).cTaker))
namespace Rel
open PySem PySem.Spec PyProof.Rows L2 Evl
section
variable {P : Program} {w : World} {K : PySem.W.Frag} {mg : Str → Option Value} {base : Heap}
theorem ok_Giver___init__ {f : Addr} {fd : FuncData} (F : FnP K "__init__" "Giver.__init__" sGiver___init__ f fd) (T : Txt K mg w) : FnOk P w K mg base CX0 1 f fd ["self"] (spGI T.aGiver) := by
  refine F.ok scGiver___init__ (fun vs H Q E h => ?_) (fun cdv A outer s H vs Q E hr h => ?_)
  · obtain ⟨_, _, rfl, _⟩ := h
    rfl
  · obtain ⟨p, dx, rfl, hp, k⟩ := h
    refine ⟨_, PSs.nox (pss_cons (ps_fld (pv 0) (pe_glob (v := .str "runs") rfl T.gRUNS_moving ⟨_, rfl⟩) rfl)
  (pss_cons (ps_fld (pv 0) pe_int rfl)
  (pss_cons (ps_fld (pv 0) (pe_lst pa_nil) rfl)
  (pss_one (ps_fld (pv 0) pe_bl rfl))))), ?_⟩
    refine q_fld (v := .str "runs") ev_c (ev_var rfl) hp T.cGiver T.oGiver_own_phase (of_decide_eq_true rfl) fun Ha ha ba => ?_
    refine q_fld (v := .int 0) ev_c (ev_var rfl) ha T.cGiver T.oGiver_own_number (of_decide_eq_true rfl) fun Hb hb bb => ?_
    refine q_fldL (el_lst ea_nil (by show 0 ≤ 100000; decide)) (ev_var rfl) hb T.cGiver T.oGiver_own_pieces (of_decide_eq_true rfl) fun pl Hc hpl hpl1 hc bc => ?_
    refine s_fld (v := .bl false) ev_c (ev_var rfl) hc T.cGiver T.oGiver_own_is_known (of_decide_eq_true rfl) fun Hd hd bd => ?_
    have hpp : pl ≠ p := by rintro rfl; rw [hb] at hpl; cases hpl
    refine k pl Hd ⟨dx, ?_, bd _ _ hpp hpl1⟩ (but_back (ba.trans bb) hpp hpl) (((ba.trans bb).trans bc).trans bd)
    rw [hd]
    kernel_rfl
theorem ok_Giver_phase {f : Addr} {fd : FuncData} (F : FnP K "phase" "Giver.phase" sGiver_phase f fd) (T : Txt K mg w) : FnOk P w K mg base CX0 1 f fd ["self"] (spGG T.aGiver fun s => .str s.phase) := by
  refine F.ok scGiver_phase (fun vs H Q E h => ?_) (fun cdv A outer s H vs Q E hr h => ?_)
  · obtain ⟨_, _, _, rfl, _⟩ := h
    rfl
  · obtain ⟨p, pl, s, rfl, ⟨dx, h0⟩, k⟩ := h
    refine ⟨_, PSs.nox (pss_one (ps_ret (pe_fldK (K := K) rfl (pv 0) rfl))), ?_⟩
    exact s_ret (by walk_at "fl") fun H1 e1 => k H1 e1
theorem ok_Giver_resume {f : Addr} {fd : FuncData} (F : FnP K "resume" "Giver.resume" sGiver_resume f fd) (T : Txt K mg w) : FnOk P w K mg base CX0 1 f fd ["self"]
    (spGM T.aGiver Unit (fun _ => []) (fun _ s _ => s.phase = "frozen") (fun _ s => { s with phase := "runs" }) fun _ _ => .non) := by
  refine F.ok scGiver_resume (fun vs H Q E h => ?_) (fun cdv A outer s H vs Q E hr h => ?_)
  · obtain ⟨_, _, _, _, rfl, _⟩ := h
    rfl
  · obtain ⟨_, p, pl, s, rfl, ⟨dx, h0⟩, hf, k⟩ := h
    refine ⟨_, PSs.nox (pss_cons (ps_if (pt_cmpR op_ne (pe_fldK (K := K) rfl (pv 0) rfl) (pe_glob (v := .str "frozen") rfl T.gFROZEN_moving ⟨_, rfl⟩) (nomark _)) (pss_one ps_never) pss_nil)
  (pss_one (ps_fld (pv 0) (pe_glob (v := .str "runs") rfl T.gRUNS_moving ⟨_, rfl⟩) rfl))), ?_⟩
    refine q_when (b := false) ?_ (fun z => nomatch z) fun _ H1 e1 => ?_
    · refine et_is (a := !decide (V.str s.phase = V.str "frozen")) (by walk_at "et") ?_
      rw [hf]
      simp
    refine gS_phase T.cGiver T.oGiver_own_phase ev_c (ev_var rfl) (h0.ex e1) fun H2 h2 b2 => ?_
    exact k pl H2 ⟨dx, h2⟩ (.inl rfl) ((But.of_ex e1).trans b2)
theorem ok_Giver_freeze {f : Addr} {fd : FuncData} (F : FnP K "freeze" "Giver.freeze" sGiver_freeze f fd) (T : Txt K mg w) : FnOk P w K mg base CX0 1 f fd ["self", "pieces"]
    (spGM T.aGiver PzA (fun a => [a.v]) (fun a s H => s.phase = "runs" ∧ Da N0 H a.v (.list (a.zs.map PyData.str))) (fun a s => { s with phase := "frozen", number := s.number + 1, pieces := a.zs }) fun _ s => .int (s.number + 1)) := by
  refine F.ok scGiver_freeze (fun vs H Q E h => ?_) (fun cdv A outer s H vs Q E hr h => ?_)
  · obtain ⟨_, _, _, _, rfl, _⟩ := h
    rfl
  · obtain ⟨⟨v, zs⟩, p, pl, s, rfl, ⟨dx, h0⟩, ⟨hf, hv⟩, k⟩ := h
    refine ⟨_, PSs.nox (pss_cons (ps_if (pt_cmpR op_ne (pe_fldK (K := K) rfl (pv 0) rfl) (pe_glob (v := .str "runs") rfl T.gRUNS_moving ⟨_, rfl⟩) (nomark _)) (pss_one ps_never) pss_nil)
  (pss_cons (ps_fld (pv 0) (pe_glob (v := .str "frozen") rfl T.gFROZEN_moving ⟨_, rfl⟩) rfl)
  (pss_cons (ps_fldaug (pv 0) pe_int in_add)
  (pss_cons (ps_fld (pv 0) (pe_callTy (kc_list (K := K) rfl) rfl T.n_list (by decide +kernel) (pa_cons (pv 1) pa_nil)) rfl)
  (pss_one (ps_ret (pe_fldK (K := K) rfl (pv 0) rfl))))))), ?_⟩
    refine q_when (b := false) ?_ (fun z => nomatch z) fun _ H1 e1 => ?_
    · refine et_is (a := !decide (V.str s.phase = V.str "runs")) (by walk_at "et") ?_
      rw [hf]
      simp
    refine gQ_phase T.cGiver T.oGiver_own_phase ev_c (ev_var rfl) (h0.ex e1) fun H2 h2 b2 => ?_
    refine ⟨_, rfl, p, T.aGiver, dx, _, _, rfl, h2.p_, T.cGiver, T.oGiver_own_number, gl_number, _, _, rfl, rfl, _, _, h2.p_, gl_len, ?_⟩
    rw [gu_number]
    have b3 : But p H2 (upd H2 p (.ins T.aGiver dx (gfl pl { s with phase := "frozen", number := s.number + 1 }))) := But.upd
    have h3 : GA T.aGiver dx (upd H2 p (.ins T.aGiver dx (gfl pl { s with phase := "frozen", number := s.number + 1 }))) p pl { s with phase := "frozen", number := s.number + 1 } := ⟨upd_same, b3.at h2.p_ h2.l_ (by intro z; cases z)⟩
    dsimp only
    change tSeq _ _ _ _ (upd H2 p (.ins T.aGiver dx (gfl pl { s with phase := "frozen", number := s.number + 1 })))
    generalize upd H2 p (.ins T.aGiver dx (gfl pl { s with phase := "frozen", number := s.number + 1 })) = H3 at b3 h3 ⊢
    obtain ⟨q0, xs, rfl, g1, _, g2⟩ := (hv.ex e1).lst_inv
    rw [g2.strs] at g1
    have g3 : H3 q0 = some (.lst (zs.map V.str)) := b3.at h2.p_ (b2.at (h0.ex e1).p_ g1 (by intro z; cases z)) (by intro z; cases z)
    refine q_fldL (el_listOf (ea_cons (ev_var rfl) ea_nil) g3) (ev_var rfl) h3.p_ T.cGiver T.oGiver_own_pieces gl_len fun q H4 hq hq4 h4 b4 => ?_
    rw [gu_pieces] at h4
    have h4' : GA T.aGiver dx H4 p q { s with phase := "frozen", number := s.number + 1, pieces := zs } := ⟨h4, hq4⟩
    have bb : But p H H3 := ((But.of_ex e1).trans b2).trans b3
    have hqp : q ≠ p := by rintro rfl; rw [h3.p_] at hq; cases hq
    refine s_ret (v := .int (s.number + 1)) (by walk_at "evr") fun H5 e5 => ?_
    exact k q H5 ⟨dx, h4'.ex e5⟩ (.inr (but_back bb hqp hq)) ((bb.trans b4).ex e5)
theorem ok_Giver_receive {f : Addr} {fd : FuncData} (F : FnP K "receive" "Giver.receive" sGiver_receive f fd) (T : Txt K mg w) : FnOk P w K mg base CX0 1 f fd ["self", "message"]
    (spGM T.aGiver MvA (fun a => [a.v]) (fun a s H => Da N0 H a.v a.m.sd ∧ a.m.ok) (fun a s => s.receive a.m) fun _ _ => .non) := by
  refine F.ok scGiver_receive (fun vs H Q E h => ?_) (fun cdv A outer s H vs Q E hr h => ?_)
  · obtain ⟨_, _, _, _, rfl, _⟩ := h
    rfl
  · obtain ⟨⟨v, m⟩, p, pl, s, rfl, ⟨dx, h0⟩, ⟨hv, hm⟩, k⟩ := h
    have nd := scGiver_receive.nd
    refine ⟨_, PSs.nox (pss_cons (ps_set (i := 2) nd rfl (Or.inl rfl) (pe_callTy (kc_tuple (K := K) rfl) rfl T.n_tuple (by decide +kernel) (pa_cons (pv 1) pa_nil)))
  (pss_one (ps_if (PW.pt (pw_and (pt_cmpR op_eq (pe_fldK (K := K) rfl (pv 0) rfl) (pe_glob (v := .str "frozen") rfl T.gFROZEN_moving ⟨_, rfl⟩) (nomark _)) (pw_and1 (pt_cmpR (ko_eqD (K := K) rfl hr.units) (pv 2) (pe_tup (pa_cons (pe_glob (v := .str "whole") rfl T.gWHOLE_moving ⟨_, rfl⟩) (pa_cons (pe_fldK (K := K) rfl (pv 0) rfl) pa_nil))) (nomark _))))) (pss_one (ps_fld (pv 0) (pe_glob (v := .str "given") rfl T.gGIVEN_moving ⟨_, rfl⟩) rfl)) (pss_one (ps_if (PW.pt (pw_and (pt_cmpR op_eq (pe_fldK (K := K) rfl (pv 0) rfl) (pe_glob (v := .str "given") rfl T.gGIVEN_moving ⟨_, rfl⟩) (nomark _)) (pw_and1 (pt_cmpR (ko_eqD (K := K) rfl hr.units) (pv 2) (pe_tup (pa_cons (pe_glob (v := .str "going") rfl T.gGOING_moving ⟨_, rfl⟩) (pa_cons (pe_fldK (K := K) rfl (pv 0) rfl) pa_nil))) (nomark _))))) (pss_one (ps_fld (pv 0) pe_bl rfl)) pss_nil))))), ?_⟩
    refine q_asgD (d := m.sd) (ed_tupleOfT (ds := m.sit) (ed_var rfl hv)) fun u H1 e1 hu => ?_
    have h1 := h0.ex e1
    refine s_if (b := decide (V.str s.phase = V.str "frozen") && m.isWhole s.number) ?_ (fun hb H2 e2 => ?_) (fun hb H2 e2 => ?_)
    · refine et_and (by walk_at "et") fun _ => ?_
      rw [← sd_whole]
      exact et_test (ev_eqD (ed_var rfl hu) (ed_tup (da_cons (ed_ev ev_c (.str _)) (da_cons (ed_ev (by walk_at "ev") (.int _)) da_nil)) (of_decide_eq_true rfl)) (shaped_sd hm) (shaped_wh _))
    · rw [Bool.and_eq_true, decide_eq_true_eq] at hb
      have hp : s.phase = "frozen" := V.str.inj hb.1
      have hs : s.receive m = { s with phase := "given" } := by
        cases m <;> simp [Msg.isWhole] at hb
        unfold GiverS.receive
        exact if_pos ⟨hp, hb.2⟩
      refine gS_phase (z := "given") T.cGiver T.oGiver_own_phase ev_c (ev_var rfl) (h1.ex e2) fun H3 h3 b3 => ?_
      exact k pl H3 ⟨dx, by show GA _ _ _ _ _ (s.receive m); rw [hs]; exact h3⟩ (.inl rfl) ((But.of_ex (e1.trans e2)).trans b3)
    · have h2 := h1.ex e2
      have hu2 := hu.ex e2
      refine s_when (b := decide (V.str s.phase = V.str "given") && m.isGoing s.number) ?_ (fun hg H3 e3 => ?_) (fun hg H3 e3 => ?_)
      · refine et_and (by walk_at "et") fun _ => ?_
        rw [← sd_going]
        exact et_test (ev_eqD (ed_var rfl hu2) (ed_tup (da_cons (ed_ev ev_c (.str _)) (da_cons (ed_ev (by walk_at "ev") (.int _)) da_nil)) (of_decide_eq_true rfl)) (shaped_sd hm) (shaped_gg _))
      · rw [Bool.and_eq_true, decide_eq_true_eq] at hg
        have hp : s.phase = "given" := V.str.inj hg.1
        have hs : s.receive m = { s with known := true } := by
          cases m <;> simp [Msg.isGoing] at hg
          unfold GiverS.receive
          exact if_pos ⟨hp, hg.2⟩
        refine gS_is_known (z := true) T.cGiver T.oGiver_own_is_known ev_c (ev_var rfl) (h2.ex e3) fun H4 h4 b4 => ?_
        exact k pl H4 ⟨dx, by show GA _ _ _ _ _ (s.receive m); rw [hs]; exact h4⟩ (.inl rfl) ((But.of_ex ((e1.trans e2).trans e3)).trans b4)
      · have hs : s.receive m = s := by
          cases m with
          | piece a b c d z => rfl
          | go a b => rfl
          | whole a b =>
            unfold GiverS.receive
            refine if_neg fun z => ?_
            simp [Msg.isWhole, z.1, z.2] at hb
          | going a b =>
            unfold GiverS.receive
            refine if_neg fun z => ?_
            simp [Msg.isGoing, z.1, z.2] at hg
        exact k pl H3 ⟨dx, by show GA _ _ _ _ _ (s.receive m); rw [hs]; exact h2.ex e3⟩ (.inl rfl) (But.of_ex ((e1.trans e2).trans e3))
theorem ok_Giver_messages {f : Addr} {fd : FuncData} (F : FnP K "messages" "Giver.messages" sGiver_messages f fd) (T : Txt K mg w) : FnOk P w K mg base CX0 1 f fd ["self"] (spGMsgs T.aGiver) := by
  refine F.ok scGiver_messages (fun vs H Q E h => ?_) (fun cdv A outer s H vs Q E hr h => ?_)
  · obtain ⟨_, _, _, rfl, _⟩ := h
    rfl
  · obtain ⟨p, pl, s, rfl, ⟨dx, h0⟩, hlen, k⟩ := h
    have nd := scGiver_messages.nd
    refine ⟨_, PSs.nox (pss_cons (ps_if (pt_cmpR op_eq (pe_fldK (K := K) rfl (pv 0) rfl) (pe_glob (v := .str "frozen") rfl T.gFROZEN_moving ⟨_, rfl⟩) (nomark _)) (pss_cons (ps_asg (pe_tup (pa_cons (pe_fldK (K := K) rfl (pv 0) rfl) (pa_cons (pe_callB (kc_len (K := K) rfl) rfl T.n_len (by decide +kernel) (pa_cons (pe_fldK (K := K) rfl (pv 0) rfl) pa_nil)) pa_nil))) (pg_tup rfl (pgs_cons (pg_name (i := 1) nd rfl (Or.inr rfl)) (pgs_cons (pg_name (i := 2) nd rfl (Or.inr rfl)) pgs_nil))))
  (pss_one (ps_ret (pe_lc (g := gTup K 2 (gCons (gName 3) (gCons (gName 4) gNil))) (own := [("index", 3), ("text", 4)]) rfl nd (pi_enum (by rfl) T.n_enumerate (pa_cons (pe_fldK (K := K) rfl (pv 0) rfl) pa_nil)) (blkOk_by (N := nGiver_messages) (sc := defScope sGiver_messages) (by decide +kernel)) (fun _ _ _ _ _ => (pg_tup rfl (pgs_cons (pg_name (i := 3) nd rfl (Or.inl rfl) (.inr rfl)) (pgs_cons (pg_name (i := 4) nd rfl (Or.inl rfl) (.inr rfl)) pgs_nil)))) (fun _ _ _ _ _ => pts_nil) (fun _ _ _ _ _ => (pe_tup (pa_cons (pe_glob (v := .str "piece") rfl T.gPIECE_moving ⟨_, rfl⟩) (pa_cons (pv 1) (pa_cons (pv 3) (pa_cons (pv 2) (pa_cons (pv 4) pa_nil))))))))))) pss_nil)
  (pss_one (ps_ret (pe_ifExp (PW.pt (pw_and (pt_cmpR op_eq (pe_fldK (K := K) rfl (pv 0) rfl) (pe_glob (v := .str "given") rfl T.gGIVEN_moving ⟨_, rfl⟩) (nomark _)) (pw_and1 (pt_not (pt_val (pe_fldK (K := K) rfl (pv 0) rfl)))))) (pe_lst (pa_cons (pe_tup (pa_cons (pe_glob (v := .str "go") rfl T.gGO_moving ⟨_, rfl⟩) (pa_cons (pe_fldK (K := K) rfl (pv 0) rfl) pa_nil))) pa_nil)) (pe_lst pa_nil))))), ?_⟩
    refine q_when (b := decide (V.str s.phase = V.str "frozen")) (by walk_at "et") (fun hb H1 e1 => ?_) (fun hb H1 e1 => ?_)
    · have hp : s.phase = "frozen" := V.str.inj (of_decide_eq_true hb)
      replace hlen := hlen hp
      have h1 := h0.ex e1
      refine q_asgT (xs := [.int s.number, .int s.pieces.length]) (ea_cons (by walk_at "ev") (ea_cons (ev_is (ev_len1 (a := pl) (by walk_at "ev") h1.l_) (by rw [List.length_map])) ea_nil)) rfl (by show 2 ≤ 1000; decide) fun H2 e2 => g_cons (g_nm (g_cons (g_nm (g_nil ?_))))
      have h2 := h1.ex e2
      refine lcE_new (n := s.pieces.length) (ea_cons (x := .ref pl) (by walk_at "ev") ea_nil) h2.l_ (by rw [List.length_map]) (by omega) (fun _ _ => rfl) (fun _ => true) (fun i => (Msg.piece 1 s.number (i : Int) (s.pieces.length : Int) (s.pieces.getD i Str.empty)).sd) (fun i x hx => et_yes) (fun i x hx _ => ?_) fun D H3 hD e3 hd => ?_
      · rw [List.getElem?_map] at hx
        obtain ⟨z, hz, rfl⟩ := Option.map_eq_some_iff.mp hx
        rw [List.getD_eq_getElem?_getD, hz]
        exact ed_tup (da_cons (ed_ev ev_c (.str _)) (da_cons (ed_ev (ev_var rfl) (.int _)) (da_cons (ed_ev (ev_var rfl) (.int _)) (da_cons (ed_ev (ev_var rfl) (.int _)) (da_cons (ed_ev (ev_var rfl) (.str _)) da_nil))))) (of_decide_eq_true rfl)
      · obtain ⟨a, xs, ea, g1, _, g2⟩ := hd.lst_inv
        cases ea
        refine k D xs H3 (fresh_back (e1.trans e2) hD) ((e1.trans e2).trans e3) g1 ?_
        unfold GiverS.msgs
        rw [if_pos hp, List.map_map]
        rw [givenD_all] at g2
        exact g2
    · have hp : ¬ s.phase = "frozen" := fun q => (of_decide_eq_false hb) (by rw [q])
      have h1 := h0.ex e1
      by_cases c : s.phase = "given" ∧ s.known = false
      · refine t_tif (b := true) (et_is (a := decide (V.str s.phase = V.str "given") && !s.known) (et_and (by walk_at "et") fun _ => et_not (et_B (by walk_at "ev"))) ?_) (fun _ H2 e2 => ?_) (fun z => nomatch z)
        · rw [c.1, c.2]; simp
        · have h2 := h1.ex e2
          refine lst_new (ds := [(Msg.go 1 s.number).sd]) (da_cons (ed_tup (da_cons (ed_ev ev_c (.str _)) (da_cons (ed_ev (by walk_at "ev") (.int _)) da_nil)) (of_decide_eq_true rfl)) da_nil) (by show 1 ≤ 100000; decide) fun D xs H3 hD e3 g1 g2 => ?_
          refine k D xs H3 (fresh_back (e1.trans e2) hD) ((e1.trans e2).trans e3) g1 ?_
          unfold GiverS.msgs
          rw [if_neg hp, if_pos c]
          exact g2
      · refine t_tif (b := false) (et_is (a := decide (V.str s.phase = V.str "given") && !s.known) (et_and (by walk_at "et") fun _ => et_not (et_B (by walk_at "ev"))) ?_) (fun z => nomatch z) (fun _ H2 e2 => ?_)
        · cases hk : s.known with
          | true => simp
          | false =>
            have : ¬ s.phase = "given" := fun q => c ⟨q, hk⟩
            simp [this]
        · refine lst_new (ds := []) da_nil (Nat.zero_le _) fun D xs H3 hD e3 g1 g2 => ?_
          refine k D xs H3 (fresh_back (e1.trans e2) hD) ((e1.trans e2).trans e3) g1 ?_
          unfold GiverS.msgs
          rw [if_neg hp, if_neg c]
          exact g2
end
end Rel
end
section
open PySem PySem.Spec PyProof.Rows L2 Evl Rel
local macro_rules | `(tactic| walk_at "hp") => `(tactic| first | assumption | exact upd_same)
local macro_rules | `(tactic| walk_at "mem") => `(tactic| first | exact List.Mem.head _ | exact List.Mem.tail _ (List.Mem.head _) | exact List.Mem.tail _ (List.Mem.tail _ (List.Mem.head _)) | exact List.Mem.tail _ (List.Mem.tail _ (List.Mem.tail _ (List.Mem.head _))))
local macro_rules | `(tactic| walk_at "rc") => `(tactic| first | exact rc_int1 | exact rc_intB | exact rc_abs | exact rc_lenL (sq_of (by assumption)) | exact rc_lenT (st_of (by assumption)) | exact rc_lenL (by assumption) | exact rc_lenT (by assumption))
local macro_rules | `(tactic| walk_at "rv") => `(tactic| first | exact rv_I0 | (refine' rv_I ?_; omega) | (refine' rv_I ?_; first | exact ⟨by omega, by omega⟩ | exact .inl ⟨by omega, by omega⟩ | exact .inr ⟨by omega, by omega⟩) | exact rv_ixL (sq_of (by assumption)) rfl | exact rv_ixL (by assumption) rfl | exact rv_ixT (st_of (by assumption)) rfl | exact rv_ixT (by assumption) rfl | exact rv_eq rfl | exact rv_ne rfl)
local macro_rules | `(tactic| walk_at "ed") => `(tactic| first
  | exact ed_var rfl (by assumption)
  | exact ed_ev (ev_var rfl) (.int _)
  | exact ed_ev (ev_var rfl) (.str _)
  | exact ed_ev ev_c .non
  | exact ed_ev ev_c (.bl _)
  | exact ed_ev ev_c (.int _)
  | exact ed_ev ev_c (.str _)
  | (apply ed_ixT; walk_at "ed"; exact ev_c; rfl; rfl)
  | (apply ed_ixL; walk_at "ed"; exact ev_c; rfl; rfl)
  | (apply ed_tup; walk_at "da"; exact of_decide_eq_true rfl)
  | (apply ed_lst; walk_at "da"; exact of_decide_eq_true rfl))
local macro_rules | `(tactic| walk_at "da") => `(tactic| first
  | exact da_nil
  | (apply da_cons; walk_at "ed"; walk_at "da"))
local macro_rules | `(tactic| walk_at "ev") => `(tactic| first
  | exact ev_c
  | (apply ev_is1; walk_at "ed"; simp)
  | (apply ev_is2; walk_at "ed"; simp; simp)
  | (apply ev_ninC; walk_at "ev"; exact ev_c; walk_at "mem")
  | (apply ev_ixC; exact ev_c; walk_at "ev"; walk_at "mem")
  | (apply ev_edI; apply ed_ixT; walk_at "ed"; exact ev_c; rfl; rfl)
  | (apply ev_edS; apply ed_ixT; walk_at "ed"; exact ev_c; rfl; rfl)
  | (apply ev_chain; walk_at "ev"; walk_at "ev"; walk_at "rv"; (intro _; walk_at "ev"); (intro _; walk_at "rv"))
  | (apply ev_notV; walk_at "ev")
  | (apply ev_andV; walk_at "ev"; (intro _; walk_at "ev"))
  | exact ev_lenL (ed_var rfl (by assumption))
  | (apply ev_edB; apply ed_call; walk_at "da"; apply spFun_D; first | trivial | assumption)
  | exact ev_lenT (ed_var rfl (by assumption))
  | (apply ev_isND; walk_at "ed")
  | (apply ev_notND; walk_at "ed")
  | (apply ev_isN; walk_at "ev")
  | (apply ev_notN; walk_at "ev")
  | exact ev_var rfl
  | (apply ev_op; walk_at "ev"; walk_at "ev"; walk_at "rv")
  | (apply ev_un; walk_at "ev"; exact ru_neg)
  | (apply ev_cb; walk_at "ea"; walk_at "rc"))
local macro_rules | `(tactic| walk_at "ea") => `(tactic| first
  | exact ea_nil
  | (apply ea_cons; walk_at "ev"; walk_at "ea"))
local macro_rules | `(tactic| walk_at "et") => `(tactic| first
  | (apply et_test; walk_at "ev")
  | (apply et_B; walk_at "ev")
  | (apply et_or; walk_at "et"; (intro _; walk_at "et"))
  | (apply et_and; walk_at "et"; (intro _; walk_at "et"))
  | (apply et_not; walk_at "et"))
local macro_rules | `(tactic| walk_at "evr") => `(tactic| (apply ev_is; walk_at "ev"; rfl))
local macro_rules | `(tactic| walk_at "etr") => `(tactic| (first | apply et_B | apply et_test); (apply ev_is; walk_at "ev"; rfl))
local macro_rules | `(tactic| walk_at "evs") => `(tactic| (apply ev_is; walk_at "ev"; simp [isiB, tyN]))
local macro_rules | `(tactic| walk_at "ets") => `(tactic| (apply et_is; walk_at "et"; simp [isiB, tyN]))
local macro_rules | `(tactic| walk_at "etr1") => `(tactic| (apply et_is; walk_at "et"; rfl))
local macro_rules | `(tactic| walk_at "rv") => `(tactic| first | exact rv_eq (scal_iO _ _) | exact rv_ne (scal_iO _ _) | exact rv_eq (scal_Oi _ _) | exact rv_ne (scal_Oi _ _))
local macro_rules | `(tactic| walk_at "etk") => `(tactic| (apply et_is; walk_at "et"; kernel_rfl))
local macro_rules | `(tactic| walk_at "fl") => `(tactic| first
  | (apply ev_fld (hn := (‹Txt _ _ _›).oHost_own_number) (hl := fl_number); exact ev_var rfl; (first | assumption | exact HA.p_ (by assumption)); exact (‹Txt _ _ _›).cHost)
  | (apply ev_fld (hn := (‹Txt _ _ _›).oHost_own_phase) (hl := fl_phase); exact ev_var rfl; (first | assumption | exact HA.p_ (by assumption)); exact (‹Txt _ _ _›).cHost)
  | (apply ev_fld (hn := (‹Txt _ _ _›).oHost_own_hop) (hl := fl_hop); exact ev_var rfl; (first | assumption | exact HA.p_ (by assumption)); exact (‹Txt _ _ _›).cHost)
  | (apply ev_fld (hn := (‹Txt _ _ _›).oHost_own_try) (hl := fl_try); exact ev_var rfl; (first | assumption | exact HA.p_ (by assumption)); exact (‹Txt _ _ _›).cHost)
  | (apply ev_fld (hn := (‹Txt _ _ _›).oHost_own_text) (hl := fl_text); exact ev_var rfl; (first | assumption | exact HA.p_ (by assumption)); exact (‹Txt _ _ _›).cHost)
  | (apply ev_fld (hn := (‹Txt _ _ _›).oHost_own_goal) (hl := fl_goal); exact ev_var rfl; (first | assumption | exact HA.p_ (by assumption)); exact (‹Txt _ _ _›).cHost)
  | (apply ev_fld (hn := (‹Txt _ _ _›).oHost_own_pieces) (hl := fl_pieces); exact ev_var rfl; (first | assumption | exact HA.p_ (by assumption)); exact (‹Txt _ _ _›).cHost)
  | (apply ev_fld (hn := (‹Txt _ _ _›).oHost_own_taken) (hl := fl_taken); exact ev_var rfl; (first | assumption | exact HA.p_ (by assumption)); exact (‹Txt _ _ _›).cHost)
  | (apply ev_fld (hn := (‹Txt _ _ _›).oHost_own_from) (hl := fl_from); exact ev_var rfl; (first | assumption | exact HA.p_ (by assumption)); exact (‹Txt _ _ _›).cHost)
  | (apply ev_fld (hn := (‹Txt _ _ _›).oHost_own_many) (hl := fl_many); exact ev_var rfl; (first | assumption | exact HA.p_ (by assumption)); exact (‹Txt _ _ _›).cHost)
  | (apply ev_fld (hn := (‹Txt _ _ _›).oHost_own_came) (hl := fl_came); exact ev_var rfl; (first | assumption | exact HA.p_ (by assumption)); exact (‹Txt _ _ _›).cHost))
local macro_rules | `(tactic| walk_at "ev") => `(tactic| walk_at "fl")
local macro_rules | `(tactic| walk_at "fl") => `(tactic| first
  | (apply ev_fld (hn := (‹Txt _ _ _›).oGiver_own_phase) (hl := gl_phase); exact ev_var rfl; (first | assumption | exact GA.p_ (by assumption)); exact (‹Txt _ _ _›).cGiver)
  | (apply ev_fld (hn := (‹Txt _ _ _›).oGiver_own_number) (hl := gl_number); exact ev_var rfl; (first | assumption | exact GA.p_ (by assumption)); exact (‹Txt _ _ _›).cGiver)
  | (apply ev_fld (hn := (‹Txt _ _ _›).oGiver_own_is_known) (hl := gl_is_known); exact ev_var rfl; (first | assumption | exact GA.p_ (by assumption)); exact (‹Txt _ _ _›).cGiver)
  | (apply ev_fld (hn := (‹Txt _ _ _›).oGiver_own_pieces) (hl := gl_pieces); exact ev_var rfl; (first | assumption | exact GA.p_ (by assumption)); exact (‹Txt _ _ _›).cGiver)
  | (apply ev_fld (hn := (‹Txt _ _ _›).oTaker_own_number) (hl := kl_number); exact ev_var rfl; (first | assumption | exact KA.p_ (by assumption)); exact (‹Txt _ _ _›).cTaker)
  | (apply ev_fld (hn := (‹Txt _ _ _›).oTaker_own_many) (hl := kl_many); exact ev_var rfl; (first | assumption | exact KA.p_ (by assumption)); exact (‹Txt _ _ _›).cTaker)
  | (apply ev_fld (hn := (‹Txt _ _ _›).oTaker_own_runs) (hl := kl_runs); exact ev_var rfl; (first | assumption | exact KA.p_ (by assumption)); exact (‹Txt _ _ _›).cTaker)
  | (apply ev_fld (hn := (‹Txt _ _ _›).oTaker_own_pieces) (hl := kl_pieces); exact ev_var rfl; (first | assumption | exact KA.p_ (by assumption)); exact (‹Txt _ _ _›).cTaker))
namespace Rel
open PySem PySem.Spec PyProof.Rows L2 Evl
section
variable {P : Program} {w : World} {K : PySem.W.Frag} {mg : Str → Option Value} {base : Heap}
theorem ok_Taker___init__ {f : Addr} {fd : FuncData} (F : FnP K "__init__" "Taker.__init__" sTaker___init__ f fd) (T : Txt K mg w) : FnOk P w K mg base CX0 1 f fd ["self"] (spKI T.aTaker) := by
  refine F.ok scTaker___init__ (fun vs H Q E h => ?_) (fun cdv A outer s H vs Q E hr h => ?_)
  · obtain ⟨_, _, rfl, _⟩ := h
    rfl
  · obtain ⟨p, dx, rfl, hp, k⟩ := h
    refine ⟨_, PSs.nox (pss_cons (ps_fld (pv 0) pe_int rfl)
  (pss_cons (ps_fld (pv 0) pe_int rfl)
  (pss_cons (ps_fld (pv 0) pe_dnewK rfl)
  (pss_one (ps_fld (pv 0) pe_bl rfl))))), ?_⟩
    refine q_fld (v := .int 0) ev_c (ev_var rfl) hp T.cTaker T.oTaker_own_number (of_decide_eq_true rfl) fun Ha ha ba => ?_
    refine q_fld (v := .int 0) ev_c (ev_var rfl) ha T.cTaker T.oTaker_own_many (of_decide_eq_true rfl) fun Hb hb bb => ?_
    refine q_fldK (ev_var rfl) hb T.cTaker T.oTaker_own_pieces (of_decide_eq_true rfl) (k := fun td Hc htd htd1 hc bc => ?_)
    refine s_fld (v := .bl false) ev_c (ev_var rfl) hc T.cTaker T.oTaker_own_runs (of_decide_eq_true rfl) fun Hd hd bd => ?_
    have hpp : td ≠ p := by rintro rfl; rw [hb] at htd; cases htd
    refine k td Hd ⟨dx, ?_, bd _ _ hpp htd1⟩ (but_back (ba.trans bb) hpp htd) (((ba.trans bb).trans bc).trans bd)
    rw [hd]
    kernel_rfl
theorem ok_Taker_is_whole {f : Addr} {fd : FuncData} (F : FnP K "is_whole" "Taker.is_whole" sTaker_is_whole f fd) (T : Txt K mg w) : FnOk P w K mg base CX0 1 f fd ["self"] (spKG T.aTaker fun s => .bl s.whole) := by
  refine F.ok scTaker_is_whole (fun vs H Q E h => ?_) (fun cdv A outer s H vs Q E hr h => ?_)
  · obtain ⟨_, _, _, rfl, _⟩ := h
    rfl
  · obtain ⟨p, td, s, rfl, ⟨dx, h0⟩, k⟩ := h
    refine ⟨_, PSs.nox (pss_one (ps_ret (pe_and (pe_cmpR op_gt (pe_fldK (K := K) rfl (pv 0) rfl) pe_int (nomark _)) (pe_one (pe_cmpR op_eq (pe_callB call_lenD rfl T.n_len (by decide +kernel) (pa_cons (pe_fldK (K := K) rfl (pv 0) rfl) pa_nil)) (pe_fldK (K := K) rfl (pv 0) rfl) (nomark _)))))), ?_⟩
    refine s_ret (v := .bl s.whole) ?_ fun H1 e1 => k H1 e1
    refine ev_is (ev_andV (a := decide (0 < s.number)) (by walk_at "ev") fun _ => ev_op (ev_dlen (a := td) (by walk_at "ev") h0.t_) (y := .int s.many) (by walk_at "ev") (rv_eq rfl)) ?_
    unfold TakerS.whole
    rw [List.length_map]
    simp
theorem ok_Taker_keep {f : Addr} {fd : FuncData} (F : FnP K "keep" "Taker.keep" sTaker_keep f fd) (T : Txt K mg w) : FnOk P w K mg base CX0 1 f fd ["self", "number", "index", "many", "text"]
    (spKM T.aTaker KpA (fun a => [.int a.n, .int a.i, .int a.m, .str a.z]) (fun a s H => s.pieces.length ≤ 1000) (fun a s => s.keep a.n a.i a.m a.z) fun _ _ => .non) := by
  refine F.ok scTaker_keep (fun vs H Q E h => ?_) (fun cdv A outer s H vs Q E hr h => ?_)
  · obtain ⟨_, _, _, _, rfl, _⟩ := h
    rfl
  · obtain ⟨⟨n, i, m, z⟩, p, td, s, rfl, ⟨dx, h0⟩, hlen, k⟩ := h
    replace hlen : s.pieces.length ≤ 1000 := hlen
    refine ⟨_, PSs.nox (pss_cons (ps_if (pt_cmpR op_gt (pv 1) (pe_fldK (K := K) rfl (pv 0) rfl) (nomark _)) (pss_cons (ps_fld (pv 0) (pv 1) rfl)
  (pss_cons (ps_fld (pv 0) (pv 3) rfl)
  (pss_one (ps_fld (pv 0) pe_dnewK rfl)))) pss_nil)
  (pss_one (ps_if (PW.pt (pw_and (pt_cmpR op_eq (pv 1) (pe_fldK (K := K) rfl (pv 0) rfl) (nomark _)) (pw_and1 (pt_cmp (pc_dnotin (hu1 hr.units) (pv 2) (pe_fldK (K := K) rfl (pv 0) rfl)))))) (pss_one (ps_dput (hu1 hr.units) (pe_fldK (K := K) rfl (pv 0) rfl) (pv 2) (pv 4) rfl)) pss_nil))), ?_⟩
    have hE : s.keep n i m z = s.keep n i m z := rfl
    conv at hE => rhs; unfold TakerS.keep
    dsimp only at hE
    have hl1 : (if s.number < n then { s with number := n, many := m, pieces := [] } else s).pieces.length ≤ 1000 := by
      split
      · exact Nat.zero_le _
      · exact hlen
    generalize hs1 : (if s.number < n then { s with number := n, many := m, pieces := [] } else s) = s1 at hE hl1
    refine q_whenC (b := decide (s.number < n)) (fun H' => ∃ td1, KA T.aTaker dx H' p td1 s1 ∧ (td1 = td ∨ H td1 = none) ∧ Frm p td H H') (by walk_at "et") (fun hb H1 e1 N q => ?_) (fun hb H1 e1 => ?_) ?_
    · rw [if_pos (of_decide_eq_true hb)] at hs1
      refine kQ_number (z := n) T.cTaker T.oTaker_own_number (ev_var rfl) (ev_var rfl) (h0.ex e1) fun H2 h2 b2 => ?_
      refine kQ_many (z := m) T.cTaker T.oTaker_own_many (ev_var rfl) (ev_var rfl) h2 fun H3 h3 b3 => ?_
      refine s_fldK (ev_var rfl) h3.p_ T.cTaker T.oTaker_own_pieces kl_len fun td1 H4 htd htd1 h4 b4 => ?_
      rw [ku_pieces] at h4
      have bb : But p H H3 := ((But.of_ex e1).trans b2).trans b3
      have hpp : td1 ≠ p := by rintro rfl; rw [h3.p_] at htd; cases htd
      refine q _ ⟨td1, ⟨by rw [← hs1]; exact h4, by rw [← hs1]; exact htd1⟩, .inr (but_back bb hpp htd), fun b o n1 n2 e => (bb.trans b4) b o n1 e⟩
    · rw [if_neg (of_decide_eq_false hb)] at hs1
      subst hs1
      exact ⟨td, h0.ex e1, .inl rfl, Frm.of_ex e1⟩
    · rintro H5 ⟨td1, h5, t5, f5⟩
      refine s_when (b := decide (n = s1.number ∧ s1.pieces.lookup i = none)) ?_ (fun c5 H6 e6 => ?_) (fun c5 H6 e6 => ?_)
      · refine et_is (et_and (by walk_at "et") fun _ => et_test (ev_dnot (k := Sum.inl i) (ev_var rfl) (by walk_at "ev") h5.t_)) ?_
        rw [valT, Bool.eq_iff_iff]
        cases s1.pieces.lookup i <;> simp
      · have c := of_decide_eq_true c5
        rw [if_pos c] at hE
        have h6 := h5.ex e6
        refine s_dput (k := Sum.inl i) (ev_var rfl) (by walk_at "ev") (ev_var rfl) h6.t_ (by rw [List.length_map]; omega) fun H7 h7 b7 => ?_
        rw [putT c.2] at h7
        have hp7 : H7 p = some (.ins T.aTaker dx (tfl td1 { s1 with pieces := s1.pieces ++ [(i, z)] })) := b7.at h6.t_ h6.p_ (by intro z; cases z)
        refine k td1 H7 ⟨dx, by show KA _ _ _ _ _ (s.keep n i m z); rw [hE]; exact ⟨hp7, h7⟩⟩ t5 ((f5.ex e6).butF b7 t5)
      · rw [if_neg (of_decide_eq_false c5)] at hE
        exact k td1 H6 ⟨dx, by show KA _ _ _ _ _ (s.keep n i m z); rw [hE]; exact h5.ex e6⟩ t5 (f5.ex e6)
theorem ok_Taker_receive {f : Addr} {fd : FuncData} (F : FnP K "receive" "Taker.receive" sTaker_receive f fd) (T : Txt K mg w)
    (FTaker_is_whole : Mx P w K mg base CX0 T.aTaker "is_whole" ["self"] 1 (spKG T.aTaker fun s => .bl s.whole))
    (FTaker_keep : Mx P w K mg base CX0 T.aTaker "keep" ["self", "number", "index", "many", "text"] 1 (spKM T.aTaker KpA (fun a => [.int a.n, .int a.i, .int a.m, .str a.z]) (fun a s H => s.pieces.length ≤ 1000) (fun a s => s.keep a.n a.i a.m a.z) fun _ _ => .non)) : FnOk P w K mg base CX0 2 f fd ["self", "message"]
    (spKM T.aTaker MvA (fun a => [a.v]) (fun a s H => Da N0 H a.v a.m.sd ∧ s.pieces.length ≤ 1000) (fun a s => s.receive a.m) fun _ _ => .non) := by
  refine F.ok scTaker_receive (fun vs H Q E h => ?_) (fun cdv A outer s H vs Q E hr h => ?_)
  · obtain ⟨_, _, _, _, rfl, _⟩ := h
    rfl
  · obtain ⟨⟨v, m⟩, p, td, s, rfl, ⟨dx, h0⟩, ⟨hv, hlen⟩, k⟩ := h
    have nd := scTaker_receive.nd
    replace hlen : s.pieces.length ≤ 1000 := hlen
    refine ⟨_, PSs.nox (pss_cons (ps_asg (pe_callTy (kc_tuple (K := K) rfl) rfl T.n_tuple (by decide +kernel) (pa_cons (pv 1) pa_nil)) (pg_star (n := 3) (i := 2) rfl (pgs_cons (pg_name (i := 2) nd rfl (Or.inl rfl)) (pgs_cons (pg_name (i := 3) nd rfl (Or.inl rfl)) (pgs_star (pg_name (i := 4) nd rfl (Or.inl rfl)) pgs_nil)))))
  (pss_cons (ps_if (pt_val (pe_fldK (K := K) rfl (pv 0) rfl)) (pss_one ps_retN) pss_nil)
  (pss_one (ps_if (pt_cmpR op_eq (pv 2) (pe_glob (v := .str "piece") rfl T.gPIECE_moving ⟨_, rfl⟩) (nomark _)) (pss_one (ps_expr (pe_meth (pv 0) T.cTaker FTaker_keep.m FTaker_keep.ok (hr.mono (by first | decide | omega)) FTaker_keep.b .nil pass0 (pa_cons (pv 3) (pa_cons (pe_ix (kx_list (K := K) rfl) (pv 4) pe_int (fun _ _ => rfl)) (pa_cons (pe_ix (kx_list (K := K) rfl) (pv 4) pe_int (fun _ _ => rfl)) (pa_cons (pe_ix (kx_list (K := K) rfl) (pv 4) pe_int (fun _ _ => rfl)) pa_nil))))))) (pss_one (ps_if (PW.pt (pw_and (pt_cmpR op_eq (pv 2) (pe_glob (v := .str "go") rfl T.gGO_moving ⟨_, rfl⟩) (nomark _)) (pw_and (pt_cmpR op_eq (pv 3) (pe_fldK (K := K) rfl (pv 0) rfl) (nomark _)) (pw_and1 (pt_val (pe_meth0 (pv 0) T.cTaker FTaker_is_whole.m FTaker_is_whole.ok (hr.mono (by first | decide | omega)) FTaker_is_whole.b .nil pass0)))))) (pss_one (ps_fld (pv 0) pe_bl rfl)) pss_nil)))))), ?_⟩
    refine (ed_tupleOfT (ds := m.sit) (ed_var rfl hv)) H (Ex.refl H) _ fun u H1 e1 hu => ?_
    obtain ⟨a, xs, rfl, g1, _, g2⟩ := hu.zero.tup_inv
    rw [m.sit_eq] at g2
    cases g2 with
    | cons x1 g2 => cases g2 with
      | cons x2 g2 =>
        rename_i u1 us1 u2 ys
        have := x1.str_inv
        subst this
        have := x2.int_inv
        subst this
        have hyl : ys.length ≤ 3 := by
          rw [g2.length]
          cases m <;> (first | exact Nat.zero_le _ | exact Nat.le_refl _)
        refine ⟨a, _, rfl, st_of g1, by decide, by simp, by rw [List.length_cons, List.length_cons]; omega, fun D hD => ?_⟩
        have hy1 : (List.drop 2 (V.str m.wd :: V.int m.tr :: ys)).take ((V.str m.wd :: V.int m.tr :: ys).length + 1 - 3) = ys := by simp
        have hy2 : List.take 2 (V.str m.wd :: V.int m.tr :: ys) ++ [V.ref D] ++ (List.drop 2 (V.str m.wd :: V.int m.tr :: ys)).drop ((V.str m.wd :: V.int m.tr :: ys).length + 1 - 3) = [V.str m.wd, V.int m.tr, V.ref D] := by simp
        rw [hy1, hy2]
        have e2 : Ex H1 (upd H1 D (.lst ys)) := Ex.new hD
        have hD2 : (upd H1 D (.lst ys)) D = some (.lst ys) := upd_same
        generalize upd H1 D (.lst ys) = H2 at e2 hD2 ⊢
        refine g_cons (g_nm (g_cons (g_nm (g_cons (g_nm (g_nil ?_))))))
        have h2 := h0.ex (e1.trans e2)
        have g3 := g2.ex e2
        dsimp only
        refine q_when (b := s.runs) (et_B (ev_fld (hn := T.oTaker_own_runs) (hl := kl_runs) (ev_var rfl) h2.p_ T.cTaker)) (fun hb H3 e3 => ?_) (fun hb H3 e3 => ?_)
        · have hs : s.receive m = s := by unfold TakerS.receive; rw [if_pos hb]
          exact k td H3 ⟨dx, by show KA _ _ _ _ _ (s.receive m); rw [hs]; exact h2.ex e3⟩ (.inl rfl) (Frm.of_ex ((e1.trans e2).trans e3))
        · have hb' : ¬ s.runs = true := by rw [hb]; decide
          have h3 := h2.ex e3
          have e03 := (e1.trans e2).trans e3
          refine s_if (b := decide (V.str m.wd = V.str "piece")) (by walk_at "et") (fun hw H4 e4 => ?_) (fun hw H4 e4 => ?_)
          · have hw := V.str.inj (of_decide_eq_true hw)
            cases m with
            | whole a b => exact absurd hw wd4
            | go a b => exact absurd hw wd7
            | going a b => exact absurd hw wd10
            | piece hh t i mm z =>
              cases g3 with
              | cons y1 g3 => cases g3 with
                | cons y2 g3 => cases g3 with
                  | cons y3 g3 =>
                    cases g3
                    have := y1.int_inv
                    subst this
                    have := y2.int_inv
                    subst this
                    have := y3.str_inv
                    subst this
                    have h4 := h3.ex e4
                    have hD4 := e4 _ _ (e3 _ _ hD2)
                    refine s_callT (KpA.mk t i mm z) (ev_var rfl) (ea_cons (ev_var rfl) (ea_cons (ev_ixL (ev_var rfl) ev_c hD4 rfl) (ea_cons (ev_ixL (ev_var rfl) ev_c hD4 rfl) (ea_cons (ev_ixL (ev_var rfl) ev_c hD4 rfl) ea_nil)))) ⟨dx, h4⟩ (fun _ _ => hlen) fun td' H' hh' ht fr => ?_
                    have hs : s.receive (.piece hh t i mm z) = s.keep t i mm z := by unfold TakerS.receive; rw [if_neg hb']
                    exact k td' H' (by show TakerAt _ _ _ _ (s.receive (.piece hh t i mm z)); rw [hs]; exact hh') (ht.imp id fun z => fresh_back (e03.trans e4) z) (fun c o n n2 q => fr c o n n2 ((e03.trans e4) c o q))
          · have h4 := h3.ex e4
            have e04 := e03.trans e4
            refine s_when (b := decide (V.str m.wd = V.str "go") && (decide (V.int m.tr = V.int s.number) && s.whole)) ?_ (fun hg H5 e5 => ?_) (fun hg H5 e5 => ?_)
            · refine et_and (by walk_at "et") fun _ => et_and (by walk_at "et") fun _ => et_B (ev_getT (f := fun s => .bl s.whole) (ev_var rfl) ⟨dx, h4⟩)
            · simp only [Bool.and_eq_true, decide_eq_true_eq] at hg
              have hw := V.str.inj hg.1
              have ht := V.int.inj hg.2.1
              have hs : s.receive m = { s with runs := true } := by
                cases m with
                | piece a b c d z => exact absurd hw wd3
                | whole a b => exact absurd hw wd6
                | going a b => exact absurd hw wd12
                | go a b =>
                  unfold TakerS.receive
                  rw [if_neg hb']
                  exact if_pos ⟨ht, hg.2.2⟩
              refine kS_runs (z := true) T.cTaker T.oTaker_own_runs ev_c (ev_var rfl) (h4.ex e5) fun H6 h6 b6 => ?_
              exact k td H6 ⟨dx, by show KA _ _ _ _ _ (s.receive m); rw [hs]; exact h6⟩ (.inl rfl) ((Frm.of_ex (e04.trans e5)).but b6)
            · have hs : s.receive m = s := by
                cases m with
                | piece a b c d z => exact absurd rfl (of_decide_eq_false hw)
                | whole a b => unfold TakerS.receive; rw [if_neg hb']
                | going a b => unfold TakerS.receive; rw [if_neg hb']
                | go a b =>
                  unfold TakerS.receive
                  rw [if_neg hb']
                  refine if_neg fun z => ?_
                  simp [Msg.wd, Msg.tr, z.1, z.2] at hg
              exact k td H5 ⟨dx, by show KA _ _ _ _ _ (s.receive m); rw [hs]; exact h4.ex e5⟩ (.inl rfl) (Frm.of_ex (e04.trans e5))
theorem ok_Taker_messages {f : Addr} {fd : FuncData} (F : FnP K "messages" "Taker.messages" sTaker_messages f fd) (T : Txt K mg w)
    (FTaker_is_whole : Mx P w K mg base CX0 T.aTaker "is_whole" ["self"] 1 (spKG T.aTaker fun s => .bl s.whole)) : FnOk P w K mg base CX0 2 f fd ["self"] (spKMsgs T.aTaker) := by
  refine F.ok scTaker_messages (fun vs H Q E h => ?_) (fun cdv A outer s H vs Q E hr h => ?_)
  · obtain ⟨_, _, _, rfl, _⟩ := h
    rfl
  · obtain ⟨p, td, s, rfl, ⟨dx, h0⟩, k⟩ := h
    refine ⟨_, PSs.nox (pss_cons (ps_if (pt_val (pe_fldK (K := K) rfl (pv 0) rfl)) (pss_one (ps_ret (pe_lst (pa_cons (pe_tup (pa_cons (pe_glob (v := .str "going") rfl T.gGOING_moving ⟨_, rfl⟩) (pa_cons (pe_fldK (K := K) rfl (pv 0) rfl) pa_nil))) pa_nil)))) pss_nil)
  (pss_one (ps_ret (pe_ifExp (pt_val (pe_meth0 (pv 0) T.cTaker FTaker_is_whole.m FTaker_is_whole.ok (hr.mono (by first | decide | omega)) FTaker_is_whole.b .nil pass0)) (pe_lst (pa_cons (pe_tup (pa_cons (pe_glob (v := .str "whole") rfl T.gWHOLE_moving ⟨_, rfl⟩) (pa_cons (pe_fldK (K := K) rfl (pv 0) rfl) pa_nil))) pa_nil)) (pe_lst pa_nil))))), ?_⟩
    refine q_when (b := s.runs) (et_B (by walk_at "ev")) (fun hb H1 e1 => ?_) (fun hb H1 e1 => ?_)
    · have h1 := h0.ex e1
      refine lst_new (ds := [(Msg.going 1 s.number).sd]) (da_cons (ed_tup (da_cons (ed_ev ev_c (.str _)) (da_cons (ed_ev (by walk_at "ev") (.int _)) da_nil)) (of_decide_eq_true rfl)) da_nil) (by show 1 ≤ 100000; decide) fun D xs H3 hD e3 g1 g2 => ?_
      refine k D xs H3 (fresh_back e1 hD) (e1.trans e3) g1 ?_
      unfold TakerS.msgs
      rw [if_pos hb]
      exact g2
    · have h1 := h0.ex e1
      have hb' : ¬ s.runs = true := by rw [hb]; decide
      refine t_tif (b := s.whole) (et_B (ev_getT (f := fun s => .bl s.whole) (ev_var rfl) ⟨dx, h1⟩)) (fun hw H2 e2 => ?_) (fun hw H2 e2 => ?_)
      · have h2 := h1.ex e2
        refine lst_new (ds := [(Msg.whole 1 s.number).sd]) (da_cons (ed_tup (da_cons (ed_ev ev_c (.str _)) (da_cons (ed_ev (by walk_at "ev") (.int _)) da_nil)) (of_decide_eq_true rfl)) da_nil) (by show 1 ≤ 100000; decide) fun D xs H3 hD e3 g1 g2 => ?_
        refine k D xs H3 (fresh_back (e1.trans e2) hD) ((e1.trans e2).trans e3) g1 ?_
        unfold TakerS.msgs
        rw [if_neg hb', if_pos hw]
        exact g2
      · refine lst_new (ds := []) da_nil (Nat.zero_le _) fun D xs H3 hD e3 g1 g2 => ?_
        refine k D xs H3 (fresh_back (e1.trans e2) hD) ((e1.trans e2).trans e3) g1 ?_
        unfold TakerS.msgs
        rw [if_neg hb', if_neg (by rw [hw]; decide)]
        exact g2
theorem ok_Taker_running {f : Addr} {fd : FuncData} (F : FnP K "running" "Taker.running" sTaker_running f fd) (T : Txt K mg w) : FnOk P w K mg base CX0 1 f fd ["self"] (spKRun T.aTaker) := by
  refine F.ok scTaker_running (fun vs H Q E h => ?_) (fun cdv A outer s H vs Q E hr h => ?_)
  · obtain ⟨_, _, _, _, rfl, _⟩ := h
    rfl
  · obtain ⟨p, td, s, zs, rfl, ⟨dx, h0⟩, hf, k⟩ := h
    have nd := scTaker_running.nd
    refine ⟨_, PSs.nox (pss_cons (ps_if (pt_not (pt_val (pe_fldK (K := K) rfl (pv 0) rfl))) (pss_one (ps_ret pe_non)) pss_nil)
  (pss_one (ps_ret (kpe_join (K := K) rfl pe_str (pe_lc (own := [("index", 1)]) rfl nd (pi_list (pe_callB (call_sortedDI rfl) rfl T.n_sorted (by decide +kernel) (pa_cons (pe_fldK (K := K) rfl (pv 0) rfl) pa_nil))) (blkOk_by (N := nTaker_running) (sc := defScope sTaker_running) (by decide +kernel)) (fun _ _ _ _ _ => (pg_name (i := 1) nd rfl (Or.inl rfl))) (fun _ _ _ _ _ => pts_nil) (fun _ _ _ _ _ => (pe_dget (hu1 hr.units) (pe_fldK (K := K) rfl (pv 0) rfl) (pv 1) (fun _ _ => rfl)))))))), ?_⟩
    refine q_when (b := !s.runs) (et_not (et_B (by walk_at "ev"))) (fun hb H1 e1 => ?_) (fun hb H1 e1 => ?_)
    · have hb' : ¬ s.runs = true := by simpa using hb
      rw [if_neg hb'] at k
      exact s_ret (v := .non) ev_c fun H2 e2 => k H2 (e1.trans e2)
    · have hb' : s.runs = true := by simpa using hb
      rw [if_pos hb'] at k
      have hF := hf hb'
      have h1 := h0.ex e1
      have hsum : (zs.map (·.length)).sum ≤ 1000 * zs.length := by
        have : ∀ l : List Str, (∀ z ∈ l, z.length ≤ 1000) → (l.map (·.length)).sum ≤ 1000 * l.length := by
          intro l
          induction l with
          | nil => intro _; exact Nat.le_refl _
          | cons x l ih =>
            intro hl
            have := ih fun z hz => hl z (List.mem_cons_of_mem _ hz)
            have := hl x List.mem_cons_self
            rw [List.map_cons, List.sum_cons, List.length_cons]
            omega
        exact this zs hF.sm
      refine s_ret (v := .str (Txt.join Str.empty zs)) (ev_join ev_c ?_ ?_) fun H2 e2 => k H2 (e1.trans e2)
      · rw [← map_getD_str, ← givenD_all]
        have hl : ((List.range zs.length).map fun i : Nat => PyData.int (i : Int)).length = zs.length := by rw [List.length_map, List.length_range]
        have := ed_lcL (K := K) (j := 1) (vs := [1]) (σ := L2.start ["self", "index"] [V.ref p]) (te := tDGet (tFld K (tVar 0) "own_pieces") (tVar 1)) (tt := tYes) (ed_sorted (ta := tCons (tFld K (tVar 0) "own_pieces") tNil) (ea_cons (x := .ref td) (by walk_at "ev") ea_nil) h1.t_ hF) (by rw [hl]; have := hF.few; omega) (fun _ => rfl) (fun _ => true) (fun i => PyData.str (zs.getD i Str.empty)) (fun i x dx' Hb eb hx hd => et_yes) (fun i x dx' Hb eb hx hd _ => ?_)
        · rw [hl] at this
          exact this
        · have hi : i < zs.length := by
            by_cases q : i < zs.length
            · exact q
            · rw [List.getElem?_eq_none (by rw [hl]; omega)] at hd; cases hd
          rw [List.getElem?_map, List.getElem?_range hi] at hd
          cases hd
          have := hx.int_inv
          subst this
          have hb1 := h1.ex eb
          exact ed_ev (ev_dget (k := Sum.inl (i : Int)) (by walk_at "ev") (ev_var rfl) hb1.t_ (by rw [valT, hF.get hi]; rfl)) (.str _)
      · show _ + _ * 0 ≤ _
        have := hF.few
        omega
end
end Rel
end
section
open PySem PySem.Spec PyProof.Rows L2 Evl Rel
local macro_rules | `(tactic| walk_at "hp") => `(tactic| first | assumption | exact upd_same)
local macro_rules | `(tactic| walk_at "mem") => `(tactic| first | exact List.Mem.head _ | exact List.Mem.tail _ (List.Mem.head _) | exact List.Mem.tail _ (List.Mem.tail _ (List.Mem.head _)) | exact List.Mem.tail _ (List.Mem.tail _ (List.Mem.tail _ (List.Mem.head _))))
local macro_rules | `(tactic| walk_at "rc") => `(tactic| first | exact rc_int1 | exact rc_intB | exact rc_abs | exact rc_lenL (sq_of (by assumption)) | exact rc_lenT (st_of (by assumption)) | exact rc_lenL (by assumption) | exact rc_lenT (by assumption))
local macro_rules | `(tactic| walk_at "rv") => `(tactic| first | exact rv_I0 | (refine' rv_I ?_; omega) | (refine' rv_I ?_; first | exact ⟨by omega, by omega⟩ | exact .inl ⟨by omega, by omega⟩ | exact .inr ⟨by omega, by omega⟩) | exact rv_ixL (sq_of (by assumption)) rfl | exact rv_ixL (by assumption) rfl | exact rv_ixT (st_of (by assumption)) rfl | exact rv_ixT (by assumption) rfl | exact rv_eq rfl | exact rv_ne rfl)
local macro_rules | `(tactic| walk_at "ed") => `(tactic| first
  | exact ed_var rfl (by assumption)
  | exact ed_ev (ev_var rfl) (.int _)
  | exact ed_ev (ev_var rfl) (.str _)
  | exact ed_ev ev_c .non
  | exact ed_ev ev_c (.bl _)
  | exact ed_ev ev_c (.int _)
  | exact ed_ev ev_c (.str _)
  | (apply ed_ixT; walk_at "ed"; exact ev_c; rfl; rfl)
  | (apply ed_ixL; walk_at "ed"; exact ev_c; rfl; rfl)
  | (apply ed_tup; walk_at "da"; exact of_decide_eq_true rfl)
  | (apply ed_lst; walk_at "da"; exact of_decide_eq_true rfl))
local macro_rules | `(tactic| walk_at "da") => `(tactic| first
  | exact da_nil
  | (apply da_cons; walk_at "ed"; walk_at "da"))
local macro_rules | `(tactic| walk_at "ev") => `(tactic| first
  | exact ev_c
  | (apply ev_is1; walk_at "ed"; simp)
  | (apply ev_is2; walk_at "ed"; simp; simp)
  | (apply ev_ninC; walk_at "ev"; exact ev_c; walk_at "mem")
  | (apply ev_ixC; exact ev_c; walk_at "ev"; walk_at "mem")
  | (apply ev_edI; apply ed_ixT; walk_at "ed"; exact ev_c; rfl; rfl)
  | (apply ev_edS; apply ed_ixT; walk_at "ed"; exact ev_c; rfl; rfl)
  | (apply ev_chain; walk_at "ev"; walk_at "ev"; walk_at "rv"; (intro _; walk_at "ev"); (intro _; walk_at "rv"))
  | (apply ev_notV; walk_at "ev")
  | (apply ev_andV; walk_at "ev"; (intro _; walk_at "ev"))
  | exact ev_lenL (ed_var rfl (by assumption))
  | (apply ev_edB; apply ed_call; walk_at "da"; apply spFun_D; first | trivial | assumption)
  | exact ev_lenT (ed_var rfl (by assumption))
  | (apply ev_isND; walk_at "ed")
  | (apply ev_notND; walk_at "ed")
  | (apply ev_isN; walk_at "ev")
  | (apply ev_notN; walk_at "ev")
  | exact ev_var rfl
  | (apply ev_op; walk_at "ev"; walk_at "ev"; walk_at "rv")
  | (apply ev_un; walk_at "ev"; exact ru_neg)
  | (apply ev_cb; walk_at "ea"; walk_at "rc"))
local macro_rules | `(tactic| walk_at "ea") => `(tactic| first
  | exact ea_nil
  | (apply ea_cons; walk_at "ev"; walk_at "ea"))
local macro_rules | `(tactic| walk_at "et") => `(tactic| first
  | (apply et_test; walk_at "ev")
  | (apply et_B; walk_at "ev")
  | (apply et_or; walk_at "et"; (intro _; walk_at "et"))
  | (apply et_and; walk_at "et"; (intro _; walk_at "et"))
  | (apply et_not; walk_at "et"))
local macro_rules | `(tactic| walk_at "evr") => `(tactic| (apply ev_is; walk_at "ev"; rfl))
local macro_rules | `(tactic| walk_at "etr") => `(tactic| (first | apply et_B | apply et_test); (apply ev_is; walk_at "ev"; rfl))
local macro_rules | `(tactic| walk_at "evs") => `(tactic| (apply ev_is; walk_at "ev"; simp [isiB, tyN]))
local macro_rules | `(tactic| walk_at "ets") => `(tactic| (apply et_is; walk_at "et"; simp [isiB, tyN]))
local macro_rules | `(tactic| walk_at "etr1") => `(tactic| (apply et_is; walk_at "et"; rfl))
local macro_rules | `(tactic| walk_at "rv") => `(tactic| first | exact rv_eq (scal_iO _ _) | exact rv_ne (scal_iO _ _) | exact rv_eq (scal_Oi _ _) | exact rv_ne (scal_Oi _ _))
local macro_rules | `(tactic| walk_at "etk") => `(tactic| (apply et_is; walk_at "et"; kernel_rfl))
local macro_rules | `(tactic| walk_at "fl") => `(tactic| first
  | (apply ev_fld (hn := (‹Txt _ _ _›).oHost_own_number) (hl := fl_number); exact ev_var rfl; (first | assumption | exact HA.p_ (by assumption)); exact (‹Txt _ _ _›).cHost)
  | (apply ev_fld (hn := (‹Txt _ _ _›).oHost_own_phase) (hl := fl_phase); exact ev_var rfl; (first | assumption | exact HA.p_ (by assumption)); exact (‹Txt _ _ _›).cHost)
  | (apply ev_fld (hn := (‹Txt _ _ _›).oHost_own_hop) (hl := fl_hop); exact ev_var rfl; (first | assumption | exact HA.p_ (by assumption)); exact (‹Txt _ _ _›).cHost)
  | (apply ev_fld (hn := (‹Txt _ _ _›).oHost_own_try) (hl := fl_try); exact ev_var rfl; (first | assumption | exact HA.p_ (by assumption)); exact (‹Txt _ _ _›).cHost)
  | (apply ev_fld (hn := (‹Txt _ _ _›).oHost_own_text) (hl := fl_text); exact ev_var rfl; (first | assumption | exact HA.p_ (by assumption)); exact (‹Txt _ _ _›).cHost)
  | (apply ev_fld (hn := (‹Txt _ _ _›).oHost_own_goal) (hl := fl_goal); exact ev_var rfl; (first | assumption | exact HA.p_ (by assumption)); exact (‹Txt _ _ _›).cHost)
  | (apply ev_fld (hn := (‹Txt _ _ _›).oHost_own_pieces) (hl := fl_pieces); exact ev_var rfl; (first | assumption | exact HA.p_ (by assumption)); exact (‹Txt _ _ _›).cHost)
  | (apply ev_fld (hn := (‹Txt _ _ _›).oHost_own_taken) (hl := fl_taken); exact ev_var rfl; (first | assumption | exact HA.p_ (by assumption)); exact (‹Txt _ _ _›).cHost)
  | (apply ev_fld (hn := (‹Txt _ _ _›).oHost_own_from) (hl := fl_from); exact ev_var rfl; (first | assumption | exact HA.p_ (by assumption)); exact (‹Txt _ _ _›).cHost)
  | (apply ev_fld (hn := (‹Txt _ _ _›).oHost_own_many) (hl := fl_many); exact ev_var rfl; (first | assumption | exact HA.p_ (by assumption)); exact (‹Txt _ _ _›).cHost)
  | (apply ev_fld (hn := (‹Txt _ _ _›).oHost_own_came) (hl := fl_came); exact ev_var rfl; (first | assumption | exact HA.p_ (by assumption)); exact (‹Txt _ _ _›).cHost))
local macro_rules | `(tactic| walk_at "ev") => `(tactic| walk_at "fl")
local macro_rules | `(tactic| walk_at "fl") => `(tactic| first
  | (apply ev_fld (hn := (‹Txt _ _ _›).oGiver_own_phase) (hl := gl_phase); exact ev_var rfl; (first | assumption | exact GA.p_ (by assumption)); exact (‹Txt _ _ _›).cGiver)
  | (apply ev_fld (hn := (‹Txt _ _ _›).oGiver_own_number) (hl := gl_number); exact ev_var rfl; (first | assumption | exact GA.p_ (by assumption)); exact (‹Txt _ _ _›).cGiver)
  | (apply ev_fld (hn := (‹Txt _ _ _›).oGiver_own_is_known) (hl := gl_is_known); exact ev_var rfl; (first | assumption | exact GA.p_ (by assumption)); exact (‹Txt _ _ _›).cGiver)
  | (apply ev_fld (hn := (‹Txt _ _ _›).oGiver_own_pieces) (hl := gl_pieces); exact ev_var rfl; (first | assumption | exact GA.p_ (by assumption)); exact (‹Txt _ _ _›).cGiver)
  | (apply ev_fld (hn := (‹Txt _ _ _›).oTaker_own_number) (hl := kl_number); exact ev_var rfl; (first | assumption | exact KA.p_ (by assumption)); exact (‹Txt _ _ _›).cTaker)
  | (apply ev_fld (hn := (‹Txt _ _ _›).oTaker_own_many) (hl := kl_many); exact ev_var rfl; (first | assumption | exact KA.p_ (by assumption)); exact (‹Txt _ _ _›).cTaker)
  | (apply ev_fld (hn := (‹Txt _ _ _›).oTaker_own_runs) (hl := kl_runs); exact ev_var rfl; (first | assumption | exact KA.p_ (by assumption)); exact (‹Txt _ _ _›).cTaker)
  | (apply ev_fld (hn := (‹Txt _ _ _›).oTaker_own_pieces) (hl := kl_pieces); exact ev_var rfl; (first | assumption | exact KA.p_ (by assumption)); exact (‹Txt _ _ _›).cTaker))
namespace Rel
open PySem PySem.Spec PyProof.Rows L2 Evl
section
variable {P : Program} {w : World} {K : PySem.W.Frag} {mg : Str → Option Value} {base : Heap}
theorem ok_as_hop {f : Addr} {fd : FuncData} (F : FnP K "_law_as_hop" "_law_as_hop" s_law_as_hop f fd) (T : Txt K mg w) : FnOk P w K mg base CX0 1 f fd ["told_so"] (spFun hopF CHop) := by
  refine F.ok sc_law_as_hop (fun vs H Q E h => ?_) (fun cdv A outer s H vs Q E hr h => ?_)
  · obtain ⟨_, _, _, rfl, _⟩ := h
    rfl
  · obtain ⟨N, v, d, rfl, hN, hv, ⟨m, rfl⟩, k⟩ := h
    refine ⟨_, PSs.nox (pss_one (ps_ret (pe_op (ko_catT (K := K) rfl) (pe_tup (pa_cons (pe_ix (kx_tup (K := K) rfl) (pv 0) pe_int (fun _ _ => rfl)) (pa_cons pe_int pa_nil))) (pe_callTy (kc_tuple (K := K) rfl) rfl T.n_tuple (by decide +kernel) (pa_cons (pe_slice (ks_tup (K := K) rfl) (pv 0) (po_some pe_int) po_none) pa_nil))))), ?_⟩
    have hb := less_da hv
    refine s_retDV (d := hopF m.sd) ?_ hN fun v' H1 e1 hd => k v' H1 e1 hd
    cases m with
    | piece h t i mm z =>
      exact ed_catT (ds := [.str "piece", .int 1]) (ds' := [.int t, .int i, .int mm, .str z]) (ed_tup (da_cons (ed_ixT (ds := [.str "piece", .int t, .int i, .int mm, .str z]) (ed_var rfl hb) ev_c rfl rfl) (da_cons (ed_int ev_c) da_nil)) (of_decide_eq_true rfl))
        (ed_tupleOfT (ed_slT (ds := [.str "piece", .int t, .int i, .int mm, .str z]) (lo := some 1) (hi := none) (ed_var rfl hb) (eo_some ev_c) eo_none (show ¬ (HT.sIx 5 0 (some 1) = 0 ∧ HT.sIx 5 5 none = 5) by decide))) (of_decide_eq_true rfl) (by simp)
    | whole h t =>
      exact ed_catT (ds := [.str "whole", .int 1]) (ds' := [.int t]) (ed_tup (da_cons (ed_ixT (ds := [.str "whole", .int t]) (ed_var rfl hb) ev_c rfl rfl) (da_cons (ed_int ev_c) da_nil)) (of_decide_eq_true rfl))
        (ed_tupleOfT (ed_slT (ds := [.str "whole", .int t]) (lo := some 1) (hi := none) (ed_var rfl hb) (eo_some ev_c) eo_none (show ¬ (HT.sIx 2 0 (some 1) = 0 ∧ HT.sIx 2 2 none = 2) by decide))) (of_decide_eq_true rfl) (by simp)
    | go h t =>
      exact ed_catT (ds := [.str "go", .int 1]) (ds' := [.int t]) (ed_tup (da_cons (ed_ixT (ds := [.str "go", .int t]) (ed_var rfl hb) ev_c rfl rfl) (da_cons (ed_int ev_c) da_nil)) (of_decide_eq_true rfl))
        (ed_tupleOfT (ed_slT (ds := [.str "go", .int t]) (lo := some 1) (hi := none) (ed_var rfl hb) (eo_some ev_c) eo_none (show ¬ (HT.sIx 2 0 (some 1) = 0 ∧ HT.sIx 2 2 none = 2) by decide))) (of_decide_eq_true rfl) (by simp)
    | going h t =>
      exact ed_catT (ds := [.str "going", .int 1]) (ds' := [.int t]) (ed_tup (da_cons (ed_ixT (ds := [.str "going", .int t]) (ed_var rfl hb) ev_c rfl rfl) (da_cons (ed_int ev_c) da_nil)) (of_decide_eq_true rfl))
        (ed_tupleOfT (ed_slT (ds := [.str "going", .int t]) (lo := some 1) (hi := none) (ed_var rfl hb) (eo_some ev_c) eo_none (show ¬ (HT.sIx 2 0 (some 1) = 0 ∧ HT.sIx 2 2 none = 2) by decide))) (of_decide_eq_true rfl) (by simp)
/-- all promises of the defs that the law calls -/
structure Bs (P : Program) (w : World) (K : PySem.W.Frag) (mg : Str → Option Value) (base : Heap) (T : Txt K mg w) where
  F_law_box : Fx P w K mg base CX0 "_law_box" ["script", "k"] 1 spBox
  F_law_cells : Fx P w K mg base CX0 "_law_cells" ["script", "most_so"] 1 (spCells K)
  F_law_take : Fx P w K mg base CX0 "_law_take" ["tin", "below_so"] 1 spTake
  F_law_same : Fx P w K mg base CX0 "_law_same" ["got", "due"] 5 (spSame 5)
  F_law_as_hop : Fx P w K mg base CX0 "_law_as_hop" ["told_so"] 1 (spFun hopF CHop)
  Fis_relay_message : Fx P w K mg base CX0 "is_relay_message" ["thing"] 2 (spFun (fun _ => .bool true) fun d => ∃ m : Msg, m.ok ∧ d = m.d)
  Fcut : Fx P w K mg base CX0 "cut" ["text", "size"] 1 spCut
  FGiver : Kx P w K mg base CX0 "Giver" T.aGiver ["self"] 1 (spGI T.aGiver)
  FGiver_phase : Mx P w K mg base CX0 T.aGiver "phase" ["self"] 1 (spGG T.aGiver fun s => .str s.phase)
  FGiver_freeze : Mx P w K mg base CX0 T.aGiver "freeze" ["self", "pieces"] 1 (spGM T.aGiver PzA (fun a => [a.v]) (fun a s H => s.phase = "runs" ∧ Da N0 H a.v (.list (a.zs.map PyData.str))) (fun a s => { s with phase := "frozen", number := s.number + 1, pieces := a.zs }) fun _ s => .int (s.number + 1))
  FGiver_resume : Mx P w K mg base CX0 T.aGiver "resume" ["self"] 1 (spGM T.aGiver Unit (fun _ => []) (fun _ s _ => s.phase = "frozen") (fun _ s => { s with phase := "runs" }) fun _ _ => .non)
  FGiver_receive : Mx P w K mg base CX0 T.aGiver "receive" ["self", "message"] 1 (spGM T.aGiver MvA (fun a => [a.v]) (fun a s H => Da N0 H a.v a.m.sd ∧ a.m.ok) (fun a s => s.receive a.m) fun _ _ => .non)
  FGiver_messages : Mx P w K mg base CX0 T.aGiver "messages" ["self"] 1 (spGMsgs T.aGiver)
  FTaker : Kx P w K mg base CX0 "Taker" T.aTaker ["self"] 1 (spKI T.aTaker)
  FTaker_receive : Mx P w K mg base CX0 T.aTaker "receive" ["self", "message"] 2 (spKM T.aTaker MvA (fun a => [a.v]) (fun a s H => Da N0 H a.v a.m.sd ∧ s.pieces.length ≤ 1000) (fun a s => s.receive a.m) fun _ _ => .non)
  FTaker_messages : Mx P w K mg base CX0 T.aTaker "messages" ["self"] 2 (spKMsgs T.aTaker)
  FTaker_running : Mx P w K mg base CX0 T.aTaker "running" ["self"] 1 (spKRun T.aTaker)
  FHost : Kx P w K mg base CX0 "Host" T.aHost ["self", "number"] 2 (spInit T.aHost)
  FHost_phase : Mx P w K mg base CX0 T.aHost "phase" ["self"] 1 (spGet T.aHost fun s => .str s.phase)
  FHost_hop : Mx P w K mg base CX0 T.aHost "hop" ["self"] 1 (spGet T.aHost fun s => .int s.hop)
  FHost_running : Mx P w K mg base CX0 T.aHost "running" ["self"] 1 (spGet T.aHost fun s => oS s.running)
  FHost_begin : Mx P w K mg base CX0 T.aHost "begin" ["self", "text"] 1 (spM T.aHost Str (fun z => [.str z]) (fun _ s _ => s.phase = "away" ∧ s.hop = 0) (fun z s => { s with phase := "runs", text := some z }) fun _ _ => .non)
  FHost_resume : Mx P w K mg base CX0 T.aHost "resume" ["self"] 1 (spM T.aHost Unit (fun _ => []) (fun _ s _ => s.phase = "frozen") (fun _ s => { s with phase := "runs", goal := none, pieces := [] }) fun _ _ => .non)
  FHost_freeze : Mx P w K mg base CX0 T.aHost "freeze" ["self", "goal", "pieces"] 2 (spM T.aHost FzA (fun a => [.int a.g, a.v]) (fun a s H => s.phase = "runs" ∧ 0 ≤ a.g ∧ a.g ≠ s.num ∧ Da N0 H a.v a.d ∧ strsD a.zs a.d ∧ a.zs ≠ [] ∧ a.zs.length ≤ 30000)
      (fun a s => { s with phase := "frozen", goal := some a.g, pieces := a.zs, tri := s.tri + 1 }) fun _ s => .int (s.tri + 1))
  FHost_receive : Mx P w K mg base CX0 T.aHost "receive" ["self", "sender", "message"] 5 (spM T.aHost RcA (fun a => [.int a.snd, a.v]) (fun a s H => 0 ≤ a.snd ∧ a.m.ok ∧ Da N0 H a.v a.d ∧ tupD a.d = a.m.d ∧ okD 4 a.d ∧ s.Ok) (fun a s => s.receive a.snd a.m) fun _ _ => .non)
  FHost_messages : Mx P w K mg base CX0 T.aHost "messages" ["self"] 2 (spMsgs T.aHost)
def spLaw (K : PySem.W.Frag) : Sp := fun vs H Q _ => ∃ (a : Addr) (ns : List Int), vs = [.ref a] ∧ SqL K H a (ns.map V.int) ∧ ns.length ≤ 63 ∧ ∀ H', Q (.bl true) H'
abbrev spRecv (C : Addr) : Sp := spM C RcA (fun a => [.int a.snd, a.v]) (fun a s H => 0 ≤ a.snd ∧ a.m.ok ∧ Da N0 H a.v a.d ∧ tupD a.d = a.m.d ∧ okD 4 a.d ∧ s.Ok) (fun a s => s.receive a.snd a.m) fun _ _ => .non
abbrev S6 (pt gv tk nr fr po : Addr) (tx : Str) (v0 v8 v9 v10 v11 v12 v13 v14 v15 v16 v17 : Option V) : L2.St := [v0, some (.ref pt), some (.ref gv), some (.ref tk), some (.ref nr), some (.ref fr), some (.str tx), some (.ref po), v8, v9, v10, v11, v12, v13, v14, v15, v16, v17]
def OneSt (C G T pt gv tk nr fr po : Addr) (tx : Str) (v0 : Option V) (B L : Nat) : L2.St → Hp → Prop := fun σ H => ∃ (v8 v9 v10 v11 v12 v13 v14 v15 v16 v17 : Option V) (pcs : Int → List Str) (g : GiverS) (t : TakerS) (n f : HostS) (os : List Air) (b : Int),
  σ = S6 pt gv tk nr fr po tx v0 v8 v9 v10 v11 v12 v13 v14 v15 v16 v17 ∧ W6 C G T pt po gv tk nr fr b g t n f os H ∧ One tx pcs g t n f ∧ (∀ q ∈ os, MO pcs g q.far q.m) ∧ b ≤ B ∧ os.length ≤ L
theorem s_hopRecv {C p td pl : Addr} {s : HostS} {c : Int} {m : Msg} {v : V} {j : Nat} {te : TE} {σ : L2.St} {H : Hp} {D : Ends} {E E2 : XK} (hi : Ev te σ H (.ref p)) (hj : σ[j]? = some (some v)) (ho : HostAt C H p td pl s) (hv : Da N0 H v m.sd) (hop : m.hop = 1) (hok : m.ok) (c0 : 0 ≤ c) (hO : s.Ok)
    (k : ∀ td' pl' H', HostAt C H' p td' pl' (s.receive c m) → (td' = td ∨ H td' = none) → (pl' = pl ∨ H pl' = none) → Frm p td H H' → D.nx σ H') :
    tDrop (tMeth C "receive" (spRecv C) [] E te (tCons (tC (.int c)) (tCons (tCall (spFun hopF CHop) [] E2 (tCons (tVar j) tNil)) tNil))) D σ H := by
  refine hi H (Ex.refl H) _ fun H1 e1 => ?_
  obtain ⟨dx, cm, a1⟩ := (ho.exx e1).ha
  refine ⟨p, dx, _, rfl, a1.p_, fl_no (by simp), t_cons (t_ev ev_c fun H2 e2 => t_cons (tx_evD (d := hopF m.sd) (ed_call (da_cons (ed_var hj (hv.ex (e1.trans e2))) da_nil) (spFun_D ⟨m, rfl⟩)) fun u H3 e3 hu => t_nil ?_))⟩
  rw [hopF_sd hop] at hu
  have e := (e1.trans e2).trans e3
  refine ⟨⟨c, m, u, m.d⟩, p, td, pl, s, rfl, ho.exx e, ⟨c0, hok, hu, tupD_msg _, okD_msg _, hO⟩, fun td' pl' H' hh ht hp fr => ?_⟩
  exact k td' pl' H' hh (ht.imp id fun z => fresh_back e z) (hp.imp id fun z => fresh_back e z) (fun x o n n2 q => fr x o n n2 (e x o q))
/-- a message is let in at the end of air_so -/
theorem s_app6 {C G T pt po gv tk nr fr : Addr} {b : Int} {g : GiverS} {t : TakerS} {n f : HostS} {os : List Air} {H : Hp} {σ : L2.St} {D : Ends} {v : V} {far : Bool} {m : Msg} {z : Str} {te : TE} (W : W6 C G T pt po gv tk nr fr b g t n f os H) (h7 : Ev te σ H (.ref po)) (h11 : σ[11]? = some (some v)) (hz : z = far? far)
    (hv : Da N0 H v m.sd) (hl : os.length < 16000000) (k : ∀ a H', W6 C G T pt po gv tk nr fr b g t n f (os ++ [⟨a, far, m⟩]) H' → But po H H' → D.nx σ H') :
    tDrop (tBM K "list" rAppend te (tCons (tLst (tCons (tC (.str z)) (tCons (tVar 11) tNil))) tNil)) D σ H := by
  subst hz
  refine h7 H (Ex.refl H) _ fun H1 e1 => ⟨Or.inl ⟨rfl, _, sq_of (e1 _ _ W.air)⟩, t_cons (t_lst (t_cons (t_ev ev_c fun H2 e2 => t_cons (t_ev (ev_var h11) fun H3 e3 => t_nil ⟨by show 2 ≤ sizeLine; decide, fun q hq => t_nil ?_⟩))))⟩
  have e := (e1.trans e2).trans e3
  have W4 := W.ex (e.trans (Ex.new hq (o := .lst [.str (far? far), v])))
  have hq0 := fresh_back e hq
  have n1 : q ≠ pt := by rintro rfl; exact W.tin.some hq0
  have n2 : q ≠ po := ne_new hq0 W.air
  have hR : AirAt (upd H3 q (.lst [.str (far? far), v])) q far m := ⟨v, upd_same, hv.ex (e.trans (Ex.new hq))⟩
  exact ⟨po, _, _, rfl, rfl, W4.air, by rw [List.length_map]; exact sz_lt' hl, k q _ (W4.app (q := ⟨q, far, m⟩) hR n1 n2) ((But.of_ex (e.trans (Ex.new hq))).trans But.upd)⟩
/-- all that is told goes into the air -/
theorem tell6 {C G T pt po gv tk nr fr : Addr} {b : Int} {g : GiverS} {t : TakerS} {n f : HostS} {os : List Air} {H : Hp} {D : Ends} {te : TE} {far : Bool} {ms : List Msg} {z : Str} {pcs : Int → List Str} {tx : Str} {v0 v8 v9 v10 v11 v12 v13 v14 v15 v16 v17 : Option V}
    (W : W6 C G T pt po gv tk nr fr b g t n f os H) (hM : ∀ q ∈ os, MO pcs g q.far q.m) (hm : ∀ m ∈ ms, MO pcs g far m) (hl : os.length ≤ 4000) (hml : ms.length ≤ 64) (hz : z = far? far)
    (hte : ∀ Q : VK, (∀ q xs H', H q = none → Ex H H' → H' q = some (.lst xs) → DaAll N0 H' xs (ms.map Msg.sd) → Q (.ref q) H') → te (S6 pt gv tk nr fr po tx v0 v8 v9 v10 v11 v12 v13 v14 v15 v16 v17) H Q)
    (k : ∀ v11' os' H', W6 C G T pt po gv tk nr fr b g t n f os' H' → (∀ q ∈ os', MO pcs g q.far q.m) → os'.length ≤ os.length + ms.length → D.nx (S6 pt gv tk nr fr po tx v0 v8 v9 v10 v11' v12 v13 v14 v15 v16 v17) H') :
    tFor (iList K te) (gName 11) (tDrop (tBM K "list" rAppend (tVar 7) (tCons (tLst (tCons (tC (.str z)) (tCons (tVar 11) tNil))) tNil))) D (S6 pt gv tk nr fr po tx v0 v8 v9 v10 v11 v12 v13 v14 v15 v16 v17) H := by
  refine t_forL (hte _ fun q xs H1 hq e1 h1 d1 => ⟨q, rfl, ⟨_, sq_of h1⟩, ?_⟩)
  have hxl : xs.length = ms.length := by rw [d1.length, List.length_map]
  have nqo : q ≠ po := ne_new hq W.air
  refine loop_on (walk_list (K := K) (a := q) (xs := xs)) (fun i σ' H' => ∃ (v11 : Option V) (os' : List Air), σ' = S6 pt gv tk nr fr po tx v0 v8 v9 v10 v11 v12 v13 v14 v15 v16 v17 ∧ W6 C G T pt po gv tk nr fr b g t n f os' H' ∧ (∀ q ∈ os', MO pcs g q.far q.m) ∧ os'.length = os.length + i ∧ H' q = some (.lst xs) ∧ DaAll N0 H' xs (ms.map Msg.sd)) ?_ ?_ ?_ ?_
  · exact ⟨v11, os, rfl, W.ex e1, hM, rfl, h1, d1⟩
  · rintro i σ' H' hi ⟨_, _, _, _, _, _, h, _⟩
    exact sq_of h
  · rintro i x σ' H' H2 hi ⟨v11, os', rfl, W', hM', hl', hq', dd⟩ ⟨rfl, hx⟩
    obtain ⟨d, hd1, hd2⟩ := dd.get hx
    obtain ⟨m, hmm, rfl⟩ := List.mem_map.mp (List.mem_of_getElem? hd1)
    refine s_app6 (far := far) (m := m) W' (ev_var rfl) rfl hz hd2 (by omega) fun a H3 W3 b3 => ?_
    refine ⟨_, _, rfl, W3, fun q hq => ?_, by rw [List.length_append]; show os'.length + 1 = _; omega, b3 _ _ nqo hq', dd.butT (noLs_map fun m _ => noL_sd m) b3 W'.air id⟩
    rcases List.mem_append.mp hq with hq | hq
    · exact hM' q hq
    · rw [List.mem_singleton.mp hq]; exact hm m hmm
  · rintro σ' H' ⟨v11, os', rfl, W', hM', hl', _, _⟩
    exact k v11 os' H' W' hM' (by omega)
end
end Rel
end
section
open PySem PySem.Spec PyProof.Rows L2 Evl Rel
local macro_rules | `(tactic| walk_at "hp") => `(tactic| first | assumption | exact upd_same)
local macro_rules | `(tactic| walk_at "mem") => `(tactic| first | exact List.Mem.head _ | exact List.Mem.tail _ (List.Mem.head _) | exact List.Mem.tail _ (List.Mem.tail _ (List.Mem.head _)) | exact List.Mem.tail _ (List.Mem.tail _ (List.Mem.tail _ (List.Mem.head _))))
local macro_rules | `(tactic| walk_at "rc") => `(tactic| first | exact rc_int1 | exact rc_intB | exact rc_abs | exact rc_lenL (sq_of (by assumption)) | exact rc_lenT (st_of (by assumption)) | exact rc_lenL (by assumption) | exact rc_lenT (by assumption))
local macro_rules | `(tactic| walk_at "rv") => `(tactic| first | exact rv_I0 | (refine' rv_I ?_; omega) | (refine' rv_I ?_; first | exact ⟨by omega, by omega⟩ | exact .inl ⟨by omega, by omega⟩ | exact .inr ⟨by omega, by omega⟩) | exact rv_ixL (sq_of (by assumption)) rfl | exact rv_ixL (by assumption) rfl | exact rv_ixT (st_of (by assumption)) rfl | exact rv_ixT (by assumption) rfl | exact rv_eq rfl | exact rv_ne rfl)
local macro_rules | `(tactic| walk_at "ed") => `(tactic| first
  | exact ed_var rfl (by assumption)
  | exact ed_ev (ev_var rfl) (.int _)
  | exact ed_ev (ev_var rfl) (.str _)
  | exact ed_ev ev_c .non
  | exact ed_ev ev_c (.bl _)
  | exact ed_ev ev_c (.int _)
  | exact ed_ev ev_c (.str _)
  | (apply ed_ixT; walk_at "ed"; exact ev_c; rfl; rfl)
  | (apply ed_ixL; walk_at "ed"; exact ev_c; rfl; rfl)
  | (apply ed_tup; walk_at "da"; exact of_decide_eq_true rfl)
  | (apply ed_lst; walk_at "da"; exact of_decide_eq_true rfl))
local macro_rules | `(tactic| walk_at "da") => `(tactic| first
  | exact da_nil
  | (apply da_cons; walk_at "ed"; walk_at "da"))
local macro_rules | `(tactic| walk_at "ev") => `(tactic| first
  | exact ev_c
  | (apply ev_is1; walk_at "ed"; simp)
  | (apply ev_is2; walk_at "ed"; simp; simp)
  | (apply ev_ninC; walk_at "ev"; exact ev_c; walk_at "mem")
  | (apply ev_ixC; exact ev_c; walk_at "ev"; walk_at "mem")
  | (apply ev_edI; apply ed_ixT; walk_at "ed"; exact ev_c; rfl; rfl)
  | (apply ev_edS; apply ed_ixT; walk_at "ed"; exact ev_c; rfl; rfl)
  | (apply ev_chain; walk_at "ev"; walk_at "ev"; walk_at "rv"; (intro _; walk_at "ev"); (intro _; walk_at "rv"))
  | (apply ev_notV; walk_at "ev")
  | (apply ev_andV; walk_at "ev"; (intro _; walk_at "ev"))
  | exact ev_lenL (ed_var rfl (by assumption))
  | (apply ev_edB; apply ed_call; walk_at "da"; apply spFun_D; first | trivial | assumption)
  | exact ev_lenT (ed_var rfl (by assumption))
  | (apply ev_isND; walk_at "ed")
  | (apply ev_notND; walk_at "ed")
  | (apply ev_isN; walk_at "ev")
  | (apply ev_notN; walk_at "ev")
  | exact ev_var rfl
  | (apply ev_op; walk_at "ev"; walk_at "ev"; walk_at "rv")
  | (apply ev_un; walk_at "ev"; exact ru_neg)
  | (apply ev_cb; walk_at "ea"; walk_at "rc"))
local macro_rules | `(tactic| walk_at "ea") => `(tactic| first
  | exact ea_nil
  | (apply ea_cons; walk_at "ev"; walk_at "ea"))
local macro_rules | `(tactic| walk_at "et") => `(tactic| first
  | (apply et_test; walk_at "ev")
  | (apply et_B; walk_at "ev")
  | (apply et_or; walk_at "et"; (intro _; walk_at "et"))
  | (apply et_and; walk_at "et"; (intro _; walk_at "et"))
  | (apply et_not; walk_at "et"))
local macro_rules | `(tactic| walk_at "evr") => `(tactic| (apply ev_is; walk_at "ev"; rfl))
local macro_rules | `(tactic| walk_at "etr") => `(tactic| (first | apply et_B | apply et_test); (apply ev_is; walk_at "ev"; rfl))
local macro_rules | `(tactic| walk_at "evs") => `(tactic| (apply ev_is; walk_at "ev"; simp [isiB, tyN]))
local macro_rules | `(tactic| walk_at "ets") => `(tactic| (apply et_is; walk_at "et"; simp [isiB, tyN]))
local macro_rules | `(tactic| walk_at "etr1") => `(tactic| (apply et_is; walk_at "et"; rfl))
local macro_rules | `(tactic| walk_at "rv") => `(tactic| first | exact rv_eq (scal_iO _ _) | exact rv_ne (scal_iO _ _) | exact rv_eq (scal_Oi _ _) | exact rv_ne (scal_Oi _ _))
local macro_rules | `(tactic| walk_at "etk") => `(tactic| (apply et_is; walk_at "et"; kernel_rfl))
local macro_rules | `(tactic| walk_at "fl") => `(tactic| first
  | (apply ev_fld (hn := (‹Txt _ _ _›).oHost_own_number) (hl := fl_number); exact ev_var rfl; (first | assumption | exact HA.p_ (by assumption)); exact (‹Txt _ _ _›).cHost)
  | (apply ev_fld (hn := (‹Txt _ _ _›).oHost_own_phase) (hl := fl_phase); exact ev_var rfl; (first | assumption | exact HA.p_ (by assumption)); exact (‹Txt _ _ _›).cHost)
  | (apply ev_fld (hn := (‹Txt _ _ _›).oHost_own_hop) (hl := fl_hop); exact ev_var rfl; (first | assumption | exact HA.p_ (by assumption)); exact (‹Txt _ _ _›).cHost)
  | (apply ev_fld (hn := (‹Txt _ _ _›).oHost_own_try) (hl := fl_try); exact ev_var rfl; (first | assumption | exact HA.p_ (by assumption)); exact (‹Txt _ _ _›).cHost)
  | (apply ev_fld (hn := (‹Txt _ _ _›).oHost_own_text) (hl := fl_text); exact ev_var rfl; (first | assumption | exact HA.p_ (by assumption)); exact (‹Txt _ _ _›).cHost)
  | (apply ev_fld (hn := (‹Txt _ _ _›).oHost_own_goal) (hl := fl_goal); exact ev_var rfl; (first | assumption | exact HA.p_ (by assumption)); exact (‹Txt _ _ _›).cHost)
  | (apply ev_fld (hn := (‹Txt _ _ _›).oHost_own_pieces) (hl := fl_pieces); exact ev_var rfl; (first | assumption | exact HA.p_ (by assumption)); exact (‹Txt _ _ _›).cHost)
  | (apply ev_fld (hn := (‹Txt _ _ _›).oHost_own_taken) (hl := fl_taken); exact ev_var rfl; (first | assumption | exact HA.p_ (by assumption)); exact (‹Txt _ _ _›).cHost)
  | (apply ev_fld (hn := (‹Txt _ _ _›).oHost_own_from) (hl := fl_from); exact ev_var rfl; (first | assumption | exact HA.p_ (by assumption)); exact (‹Txt _ _ _›).cHost)
  | (apply ev_fld (hn := (‹Txt _ _ _›).oHost_own_many) (hl := fl_many); exact ev_var rfl; (first | assumption | exact HA.p_ (by assumption)); exact (‹Txt _ _ _›).cHost)
  | (apply ev_fld (hn := (‹Txt _ _ _›).oHost_own_came) (hl := fl_came); exact ev_var rfl; (first | assumption | exact HA.p_ (by assumption)); exact (‹Txt _ _ _›).cHost))
local macro_rules | `(tactic| walk_at "ev") => `(tactic| walk_at "fl")
local macro_rules | `(tactic| walk_at "fl") => `(tactic| first
  | (apply ev_fld (hn := (‹Txt _ _ _›).oGiver_own_phase) (hl := gl_phase); exact ev_var rfl; (first | assumption | exact GA.p_ (by assumption)); exact (‹Txt _ _ _›).cGiver)
  | (apply ev_fld (hn := (‹Txt _ _ _›).oGiver_own_number) (hl := gl_number); exact ev_var rfl; (first | assumption | exact GA.p_ (by assumption)); exact (‹Txt _ _ _›).cGiver)
  | (apply ev_fld (hn := (‹Txt _ _ _›).oGiver_own_is_known) (hl := gl_is_known); exact ev_var rfl; (first | assumption | exact GA.p_ (by assumption)); exact (‹Txt _ _ _›).cGiver)
  | (apply ev_fld (hn := (‹Txt _ _ _›).oGiver_own_pieces) (hl := gl_pieces); exact ev_var rfl; (first | assumption | exact GA.p_ (by assumption)); exact (‹Txt _ _ _›).cGiver)
  | (apply ev_fld (hn := (‹Txt _ _ _›).oTaker_own_number) (hl := kl_number); exact ev_var rfl; (first | assumption | exact KA.p_ (by assumption)); exact (‹Txt _ _ _›).cTaker)
  | (apply ev_fld (hn := (‹Txt _ _ _›).oTaker_own_many) (hl := kl_many); exact ev_var rfl; (first | assumption | exact KA.p_ (by assumption)); exact (‹Txt _ _ _›).cTaker)
  | (apply ev_fld (hn := (‹Txt _ _ _›).oTaker_own_runs) (hl := kl_runs); exact ev_var rfl; (first | assumption | exact KA.p_ (by assumption)); exact (‹Txt _ _ _›).cTaker)
  | (apply ev_fld (hn := (‹Txt _ _ _›).oTaker_own_pieces) (hl := kl_pieces); exact ev_var rfl; (first | assumption | exact KA.p_ (by assumption)); exact (‹Txt _ _ _›).cTaker))
namespace Rel
open PySem PySem.Spec PyProof.Rows L2 Evl
section
variable {P : Program} {w : World} {K : PySem.W.Frag} {mg : Str → Option Value} {base : Heap}
theorem ok_law {f : Addr} {fd : FuncData} (F : FnP K "law" "law" slaw f fd) (T : Txt K mg w) (B : Bs P w K mg base T) : FnOk P w K mg base CX0 6 f fd ["script"] (spLaw K) := by
  obtain ⟨F_law_box, F_law_cells, F_law_take, F_law_same, F_law_as_hop, Fis_relay_message, Fcut, FGiver, FGiver_phase, FGiver_freeze, FGiver_resume, FGiver_receive, FGiver_messages, FTaker, FTaker_receive, FTaker_messages, FTaker_running, FHost, FHost_phase, FHost_hop, FHost_running, FHost_begin, FHost_resume, FHost_freeze, FHost_receive, FHost_messages⟩ := B
  refine F.ok sclaw (fun vs H Q E h => ?_) (fun cdv A outer s H vs Q E hr h => ?_)
  · obtain ⟨_, _, rfl, _⟩ := h
    rfl
  · obtain ⟨a, ns, rfl, ha, hn, k⟩ := h
    have nd := sclaw.nd
    refine ⟨_, PSs.nox (pss_cons (ps_set (i := 1) nd rfl (Or.inl rfl) (pe_call F_law_box.ok (hr.mono (by first | decide | omega)) rfl F_law_box.g F_law_box.kp F_law_box.b .nil pass0 (pa_cons (pe_call F_law_cells.ok (hr.mono (by first | decide | omega)) rfl F_law_cells.g F_law_cells.kp F_law_cells.b .nil pass0 (pa_cons (pv 0) (pa_cons pe_int pa_nil))) (pa_cons pe_int pa_nil))))
  (pss_cons (ps_asg (pe_tup (pa_cons (pe_make0 FGiver.mkr FGiver.ok (hr.mono (by first | decide | omega)) rfl FGiver.g FGiver.b .nil pass0) (pa_cons (pe_make0 FTaker.mkr FTaker.ok (hr.mono (by first | decide | omega)) rfl FTaker.g FTaker.b .nil pass0) (pa_cons (pe_make FHost.mkr FHost.ok (hr.mono (by first | decide | omega)) rfl FHost.g FHost.b .nil pass0 (pa_cons pe_int pa_nil)) (pa_cons (pe_make FHost.mkr FHost.ok (hr.mono (by first | decide | omega)) rfl FHost.g FHost.b .nil pass0 (pa_cons pe_int pa_nil)) pa_nil))))) (pg_tup rfl (pgs_cons (pg_name (i := 2) nd rfl (Or.inl rfl)) (pgs_cons (pg_name (i := 3) nd rfl (Or.inl rfl)) (pgs_cons (pg_name (i := 4) nd rfl (Or.inl rfl)) (pgs_cons (pg_name (i := 5) nd rfl (Or.inl rfl)) pgs_nil))))))
  (pss_cons (ps_set (i := 6) nd rfl (Or.inl rfl) (pe_op op_add_str pe_str (pe_callTy call_str_int rfl T.n_str (by decide +kernel) (pa_cons (pe_call F_law_take.ok (hr.mono (by first | decide | omega)) rfl F_law_take.g F_law_take.kp F_law_take.b .nil pass0 (pa_cons (pv 1) (pa_cons (pe_op op_pow pe_int pe_int) pa_nil))) pa_nil))))
  (pss_cons (ps_expr (pe_meth (pv 4) T.cHost FHost_begin.m FHost_begin.ok (hr.mono (by first | decide | omega)) FHost_begin.b .nil pass0 (pa_cons (pv 6) pa_nil)))
  (pss_cons (ps_set (i := 7) nd rfl (Or.inl rfl) (pe_lst pa_nil))
  (pss_cons (ps_for PassesOwn.never rfl (pi_range1 rfl T.n_range (pa_cons pe_int pa_nil)) (pg_name (i := 8) nd rfl (Or.inl rfl)) (pss_cons (ps_set (i := 9) nd rfl (Or.inl rfl) (pe_call F_law_take.ok (hr.mono (by first | decide | omega)) rfl F_law_take.g F_law_take.kp F_law_take.b .nil pass0 (pa_cons (pv 1) (pa_cons pe_int pa_nil))))
  (pss_cut (ps_if (PW.pt (pw_and (pt_cmpR op_eq (pv 9) pe_int (nomark _)) (pw_and1 (pt_cmpR op_eq (pe_meth0 (pv 2) T.cGiver FGiver_phase.m FGiver_phase.ok (hr.mono (by first | decide | omega)) FGiver_phase.b .nil pass0) pe_str (nomark _))))) (pss_cons (ps_set (i := 10) nd rfl (Or.inl rfl) (pe_call Fcut.ok (hr.mono (by first | decide | omega)) rfl Fcut.g Fcut.kp Fcut.b .nil pass0 (pa_cons (pv 6) (pa_cons (pe_op op_add pe_int (pe_call F_law_take.ok (hr.mono (by first | decide | omega)) rfl F_law_take.g F_law_take.kp F_law_take.b .nil pass0 (pa_cons (pv 1) (pa_cons pe_int pa_nil)))) pa_nil))))
  (pss_one (ps_if (pt_not (pt_val (pe_call F_law_same.ok (hr.mono (by first | decide | omega)) rfl F_law_same.g F_law_same.kp F_law_same.b .nil pass0 (pa_cons (pe_meth (pv 4) T.cHost FHost_freeze.m FHost_freeze.ok (hr.mono (by first | decide | omega)) FHost_freeze.b .nil pass0 (pa_cons pe_int (pa_cons (pv 10) pa_nil))) (pa_cons (pe_meth (pv 2) T.cGiver FGiver_freeze.m FGiver_freeze.ok (hr.mono (by first | decide | omega)) FGiver_freeze.b .nil pass0 (pa_cons (pv 10) pa_nil)) pa_nil))))) (pss_one (ps_ret pe_bl)) pss_nil))) (pss_one (ps_if (PW.pt (pw_and (pt_cmpR op_eq (pv 9) pe_int (nomark _)) (pw_and1 (pt_cmpR op_eq (pe_meth0 (pv 2) T.cGiver FGiver_phase.m FGiver_phase.ok (hr.mono (by first | decide | omega)) FGiver_phase.b .nil pass0) pe_str (nomark _))))) (pss_cons (ps_expr (pe_meth0 (pv 2) T.cGiver FGiver_resume.m FGiver_resume.ok (hr.mono (by first | decide | omega)) FGiver_resume.b .nil pass0))
  (pss_one (ps_expr (pe_meth0 (pv 4) T.cHost FHost_resume.m FHost_resume.ok (hr.mono (by first | decide | omega)) FHost_resume.b .nil pass0)))) (pss_one (ps_if (pt_cmpR op_lt (pv 9) pe_int (nomark _)) (pss_cut (ps_for PassesOwn.never rfl (pi_list (pe_meth0 (pv 2) T.cGiver FGiver_messages.m FGiver_messages.ok (hr.mono (by first | decide | omega)) FGiver_messages.b .nil pass0)) (pg_name (i := 11) nd rfl (Or.inl rfl)) (pss_one (ps_expr (pe_bm PySem.F.plainAttrs_list PySem.F.slot_list_append PySem.F.type_list_append mt_append (pv 7) (pa_cons (pe_lst (pa_cons pe_str (pa_cons (pv 11) pa_nil))) pa_nil)))))
  (pss_one (ps_for PassesOwn.never rfl (pi_list (pe_meth0 (pv 3) T.cTaker FTaker_messages.m FTaker_messages.ok (hr.mono (by first | decide | omega)) FTaker_messages.b .nil pass0)) (pg_name (i := 11) nd rfl (Or.inl rfl)) (pss_one (ps_expr (pe_bm PySem.F.plainAttrs_list PySem.F.slot_list_append PySem.F.type_list_append mt_append (pv 7) (pa_cons (pe_lst (pa_cons pe_str (pa_cons (pv 11) pa_nil))) pa_nil))))))) (pss_one (ps_if (pt_cmpR (ko_neD (K := K) rfl hr.units) (pv 7) (pe_lst pa_nil) (nomark _)) (pss_cons (ps_set (i := 12) nd rfl (Or.inl rfl) (pe_ifExp (pt_cmpR op_lt (pv 9) pe_int (nomark _)) (pe_op op_sub (pe_op op_sub (pe_callB (kc_len (K := K) rfl) rfl T.n_len (by decide +kernel) (pa_cons (pv 7) pa_nil)) pe_int) (pe_call F_law_take.ok (hr.mono (by first | decide | omega)) rfl F_law_take.g F_law_take.kp F_law_take.b .nil pass0 (pa_cons (pv 1) (pa_cons (pe_callB (call_min2 rfl) rfl T.n_min (by decide +kernel) (pa_cons (pe_callB (kc_len (K := K) rfl) rfl T.n_len (by decide +kernel) (pa_cons (pv 7) pa_nil)) (pa_cons pe_int pa_nil))) pa_nil)))) (pe_call F_law_take.ok (hr.mono (by first | decide | omega)) rfl F_law_take.g F_law_take.kp F_law_take.b .nil pass0 (pa_cons (pv 1) (pa_cons (pe_callB (kc_len (K := K) rfl) rfl T.n_len (by decide +kernel) (pa_cons (pv 7) pa_nil)) pa_nil)))))
  (pss_cons (ps_asg (pe_ix (kx_list (K := K) rfl) (pv 7) (pv 12) (fun _ _ => rfl)) (pg_unl rfl (pgs_cons (pg_name (i := 13) nd rfl (Or.inl rfl)) (pgs_cons (pg_name (i := 14) nd rfl (Or.inl rfl)) pgs_nil))))
  (pss_cons (ps_if (pt_not (pt_val (pe_call Fis_relay_message.ok (hr.mono (by first | decide | omega)) rfl Fis_relay_message.g Fis_relay_message.kp Fis_relay_message.b .nil pass0 (pa_cons (pe_call F_law_as_hop.ok (hr.mono (by first | decide | omega)) rfl F_law_as_hop.g F_law_as_hop.kp F_law_as_hop.b .nil pass0 (pa_cons (pv 14) pa_nil)) pa_nil)))) (pss_one (ps_ret pe_bl)) pss_nil)
  (pss_one (ps_if (pt_cmpR op_eq (pv 13) pe_str (nomark _)) (pss_cons (ps_expr (pe_meth (pv 3) T.cTaker FTaker_receive.m FTaker_receive.ok (hr.mono (by first | decide | omega)) FTaker_receive.b .nil pass0 (pa_cons (pv 14) pa_nil)))
  (pss_one (ps_expr (pe_meth (pv 5) T.cHost FHost_receive.m FHost_receive.ok (hr.mono (by first | decide | omega)) FHost_receive.b .nil pass0 (pa_cons pe_int (pa_cons (pe_call F_law_as_hop.ok (hr.mono (by first | decide | omega)) rfl F_law_as_hop.g F_law_as_hop.kp F_law_as_hop.b .nil pass0 (pa_cons (pv 14) pa_nil)) pa_nil)))))) (pss_cons (ps_expr (pe_meth (pv 2) T.cGiver FGiver_receive.m FGiver_receive.ok (hr.mono (by first | decide | omega)) FGiver_receive.b .nil pass0 (pa_cons (pv 14) pa_nil)))
  (pss_one (ps_expr (pe_meth (pv 4) T.cHost FHost_receive.m FHost_receive.ok (hr.mono (by first | decide | omega)) FHost_receive.b .nil pass0 (pa_cons pe_int (pa_cons (pe_call F_law_as_hop.ok (hr.mono (by first | decide | omega)) rfl F_law_as_hop.g F_law_as_hop.kp F_law_as_hop.b .nil pass0 (pa_cons (pv 14) pa_nil)) pa_nil))))))))))) pss_nil)))))))
  (pss_cons (ps_set (i := 15) nd rfl (Or.inl rfl) (pe_and (pe_cmpR op_eq (pe_meth0 (pv 2) T.cGiver FGiver_phase.m FGiver_phase.ok (hr.mono (by first | decide | omega)) FGiver_phase.b .nil pass0) pe_str (nomark _)) (pe_one (pe_cmpR (ko_eqD (K := K) rfl hr.units) (pe_meth0 (pv 2) T.cGiver FGiver_messages.m FGiver_messages.ok (hr.mono (by first | decide | omega)) FGiver_messages.b .nil pass0) (pe_lst pa_nil) (nomark _)))))
  (pss_cons (ps_set (i := 16) nd rfl (Or.inl rfl) (pe_lst (pa_cons (pe_meth0 (pv 4) T.cHost FHost_phase.m FHost_phase.ok (hr.mono (by first | decide | omega)) FHost_phase.b .nil pass0) (pa_cons (pe_meth0 (pv 4) T.cHost FHost_messages.m FHost_messages.ok (hr.mono (by first | decide | omega)) FHost_messages.b .nil pass0) (pa_cons (pe_meth0 (pv 5) T.cHost FHost_messages.m FHost_messages.ok (hr.mono (by first | decide | omega)) FHost_messages.b .nil pass0) (pa_cons (pe_meth0 (pv 5) T.cHost FHost_running.m FHost_running.ok (hr.mono (by first | decide | omega)) FHost_running.b .nil pass0) (pa_cons (pe_meth0 (pv 5) T.cHost FHost_phase.m FHost_phase.ok (hr.mono (by first | decide | omega)) FHost_phase.b .nil pass0) (pa_cons (pe_meth0 (pv 4) T.cHost FHost_running.m FHost_running.ok (hr.mono (by first | decide | omega)) FHost_running.b .nil pass0) (pa_cons (pe_meth0 (pv 4) T.cHost FHost_hop.m FHost_hop.ok (hr.mono (by first | decide | omega)) FHost_hop.b .nil pass0) pa_nil)))))))))
  (pss_cons (ps_set (i := 17) nd rfl (Or.inl rfl) (pe_lst (pa_cons (pe_ifExp (pt_val (pv 15)) pe_str (pe_meth0 (pv 2) T.cGiver FGiver_phase.m FGiver_phase.ok (hr.mono (by first | decide | omega)) FGiver_phase.b .nil pass0)) (pa_cons (pe_lc (own := [("own", 11)]) rfl nd (pi_list (pe_meth0 (pv 2) T.cGiver FGiver_messages.m FGiver_messages.ok (hr.mono (by first | decide | omega)) FGiver_messages.b .nil pass0)) (blkOk_by (N := nlaw) (sc := defScope slaw) (by decide +kernel)) (fun _ _ _ _ _ => (pg_name (i := 11) nd rfl (Or.inl rfl))) (fun _ _ _ _ _ => pts_nil) (fun _ _ _ _ _ => (pe_tup (pa_cons pe_int (pa_cons (pe_call F_law_as_hop.ok (hr.mono (by first | decide | omega)) rfl F_law_as_hop.g F_law_as_hop.kp F_law_as_hop.b .nil pass0 (pa_cons (pv 11) pa_nil)) pa_nil))))) (pa_cons (pe_lc (own := [("own", 11)]) rfl nd (pi_list (pe_meth0 (pv 3) T.cTaker FTaker_messages.m FTaker_messages.ok (hr.mono (by first | decide | omega)) FTaker_messages.b .nil pass0)) (blkOk_by (N := nlaw) (sc := defScope slaw) (by decide +kernel)) (fun _ _ _ _ _ => (pg_name (i := 11) nd rfl (Or.inl rfl))) (fun _ _ _ _ _ => pts_nil) (fun _ _ _ _ _ => (pe_tup (pa_cons pe_int (pa_cons (pe_call F_law_as_hop.ok (hr.mono (by first | decide | omega)) rfl F_law_as_hop.g F_law_as_hop.kp F_law_as_hop.b .nil pass0 (pa_cons (pv 11) pa_nil)) pa_nil))))) pa_nil)))))
  (pss_cons (ps_set (i := 17) nd rfl (Or.inl rfl) (pe_op op_cat (pv 17) (pe_lst (pa_cons (pe_meth0 (pv 3) T.cTaker FTaker_running.m FTaker_running.ok (hr.mono (by first | decide | omega)) FTaker_running.b .nil pass0) (pa_cons (pe_ifExp (pt_cmp (pc_isN (pe_meth0 (pv 3) T.cTaker FTaker_running.m FTaker_running.ok (hr.mono (by first | decide | omega)) FTaker_running.b .nil pass0)) rfl) pe_str pe_str) (pa_cons (pe_ifExp (pt_cmpR op_eq (pe_meth0 (pv 2) T.cGiver FGiver_phase.m FGiver_phase.ok (hr.mono (by first | decide | omega)) FGiver_phase.b .nil pass0) pe_str (nomark _)) (pv 6) pe_non) (pa_cons pe_int pa_nil)))))))
  (pss_one (ps_if (PW.pt (pw_or (pt_not (pt_val (pe_call F_law_same.ok (hr.mono (by first | decide | omega)) rfl F_law_same.g F_law_same.kp F_law_same.b .nil pass0 (pa_cons (pv 16) (pa_cons (pv 17) pa_nil))))) (pw_or1 (PW.pt (pw_and (pt_cmp (pc_notN (pe_meth0 (pv 3) T.cTaker FTaker_running.m FTaker_running.ok (hr.mono (by first | decide | omega)) FTaker_running.b .nil pass0)) rfl) (pw_and1 (pt_cmpR op_ne (pe_meth0 (pv 3) T.cTaker FTaker_running.m FTaker_running.ok (hr.mono (by first | decide | omega)) FTaker_running.b .nil pass0) (pv 6) (nomark _)))))))) (pss_one (ps_ret pe_bl)) pss_nil)))))))))
  (pss_one (ps_ret pe_bl)))))))), ?_⟩
    -- the box
    refine q_asgK (t_call (t_cons (t_call (t_cons (t_ev (ev_var rfl) fun H0' e0' => t_cons (t_ev ev_c fun H0 e0 => t_nil ?_)))))) 
    refine ⟨a, ns, rfl, ex_l (e0'.trans e0) ha, hn, fun p z H1 hp e1 h1 => t_cons (t_ev ev_c fun H2 e2 => t_nil ⟨p, z, rfl, e2 _ _ h1, fun pt A0 B0 H3 hpt hA hB hB2 e3 h3 => ?_⟩)⟩
    have T3 : Tin H3 pt 0 := ⟨A0, B0, 0, h3, hA, hB, hB2, Int.le_refl _, Int.le_refl _⟩
    clear hA hB hB2 h3 hpt e3 h1 e1 hp e2
    -- giver, taker, near, far
    refine q_asgT2 (t_cons (t_make (t_nil fun gv dxg hg hdg neg => mk_giver hg hdg neg fun pg H4 hG hpg e4 => ⟨rfl, ?_⟩)))
    refine t_cons (t_make (t_nil fun tk dxt ht hdt net => mk_taker ht hdt net fun tt H5 hT htt e5 => ⟨rfl, ?_⟩))
    refine t_cons (t_make (t_cons (t_ev ev_c fun H6 e6 => t_nil fun nr dxn hnr hdn nen => mk_host hnr hdn nen (by decide) fun tn pn H7 hN htn hpn e7 => ⟨rfl, ?_⟩)))
    refine t_cons (t_make (t_cons (t_ev ev_c fun H8 e8 => t_nil fun fr dxf hfr hdf nef => mk_host hfr hdf nef (by decide) fun tf pf H9 hF htf hpf e9 => ⟨rfl, t_nil ⟨by show 4 ≤ sizeLine; decide, fun U hU => g_tup2 rfl (g_cons (g_nm (g_cons (g_nm (g_cons (g_nm (g_cons (g_nm (g_nil ?_)))))))))⟩⟩)))
    have T9 : Tin H9 pt 0 := ((((((T3.ex e4).ex e5).ex e6).ex e7).ex e8).ex e9)
    have G6 := (hG.ex e5).ex e6
    have G8 := (G6.ex e7).ex e8
    have K6 := hT.ex e6
    have K8 := (K6.ex e7).ex e8
    have N8 := hN.exx e8
    have ne1 : gv ≠ tk := by obtain ⟨⟨_, _, h⟩, _⟩ := hG.some; exact Ne.symm (ne_new ht h)
    have ne2 : gv ≠ nr := by obtain ⟨⟨_, _, h⟩, _⟩ := G6.some; exact Ne.symm (ne_new hnr h)
    have ne3 : gv ≠ fr := by obtain ⟨⟨_, _, h⟩, _⟩ := G8.some; exact Ne.symm (ne_new hfr h)
    have ne4 : tk ≠ nr := by obtain ⟨⟨_, _, h⟩, _⟩ := K6.some; exact Ne.symm (ne_new hnr h)
    have ne5 : tk ≠ fr := by obtain ⟨⟨_, _, h⟩, _⟩ := K8.some; exact Ne.symm (ne_new hfr h)
    have ne6 : nr ≠ fr := by obtain ⟨⟨_, _, h⟩, _⟩ := N8.some; exact Ne.symm (ne_new hfr h)
    have nd1 : tt ≠ tn := by obtain ⟨_, _, h⟩ := K6.some; exact Ne.symm (ne_new htn h)
    have nd2 : tt ≠ tf := by obtain ⟨_, _, h⟩ := K8.some; exact Ne.symm (ne_new htf h)
    have nd3 : tn ≠ tf := by obtain ⟨_, ⟨_, h⟩, _⟩ := N8.some; exact Ne.symm (ne_new htf h)
    have np1 : pg ≠ pt := by rintro rfl; exact T3.some hpg
    have np2 : pn ≠ pt := by rintro rfl; exact (((T3.ex e4).ex e5).ex e6).some hpn
    have np3 : pf ≠ pt := by rintro rfl; exact (((((T3.ex e4).ex e5).ex e6).ex e7).ex e8).some hpf
    have G10 := (G8.ex e9).ex (Ex.new hU (o := .tup [.ref gv, .ref tk, .ref nr, .ref fr]))
    have K10 := (K8.ex e9).ex (Ex.new hU (o := .tup [.ref gv, .ref tk, .ref nr, .ref fr]))
    have N10 := (N8.exx e9).exx (Ex.new hU (o := .tup [.ref gv, .ref tk, .ref nr, .ref fr]))
    have F10 := hF.exx (Ex.new hU (o := .tup [.ref gv, .ref tk, .ref nr, .ref fr]))
    have T10 := T9.ex (Ex.new hU (o := .tup [.ref gv, .ref tk, .ref nr, .ref fr]))
    generalize upd H9 U (.tup [.ref gv, .ref tk, .ref nr, .ref fr]) = H10 at G10 K10 N10 F10 T10 ⊢
    clear T3 T9 G6 G8 K6 K8 N8 hG hT hN hF e4 e5 e6 e7 e8 e9 hU hg hdg neg ht hdt net hnr hdn nen hfr hdf nef hpg htt htn hpn htf hpf
    -- the text
    refine q_asgK (t_op (t_ev ev_c fun H11 e11 => t_cb (t_cons (take_at (n := 10 ^ 6) (ev_var rfl) (ev_op ev_c ev_c (rv_I ⟨by decide, by decide, by decide⟩)) (T10.ex e11) (by decide) (by decide) (by decide) fun r2 H12 r2a r2b T12 b12 => t_nil ?_))))
    have hlog : r2.natAbs.log2 < 1920 := by
      rcases Nat.eq_zero_or_pos r2.natAbs with z | z
      · rw [z]; decide
      · refine (Nat.log2_lt (by omega)).mpr (Nat.lt_of_lt_of_le (show r2.natAbs < 2 ^ 30 by omega) (Nat.pow_le_pow_right (by decide) (by decide)))
    refine ⟨r2, rfl, hlog, ?_⟩
    have hsl : (Str.ofString (toString r2)).length ≤ 10 := PyProof.Rows.toString_length_le r2a (by decide) (by omega)
    have hrl : ("tree of " : Str).length = 8 := by decide +kernel
    refine ⟨"tree of ", Str.ofString (toString r2), rfl, rfl, by rw [hrl]; exact sz_of (by omega), ?_⟩
    have htx : ("tree of " ++ Str.ofString (toString r2) : Str).length = 8 + (Str.ofString (toString r2)).length := by rw [Str.length_append, hrl]
    have htx1 : 8 ≤ ("tree of " ++ Str.ofString (toString r2) : Str).length ∧ ("tree of " ++ Str.ofString (toString r2) : Str).length ≤ 18 := by omega
    have htx2 : okS ("tree of " ++ Str.ofString (toString r2) : Str) = true := by
      unfold okS
      rw [Str.cps_append, Array.all_append, ofString_all, Bool.true_and]
      exact ofString_all _
    generalize ("tree of " ++ Str.ofString (toString r2) : Str) = tx at htx1 htx2 ⊢
    obtain ⟨A1, B1, C1, ht11, _⟩ := T10.ex e11
    have k12 := Kp.butL b12 ht11
    have G12 := k12.giver (G10.ex e11) id np1
    have K12 := k12.taker (K10.ex e11) id id
    have N12 := k12.host (N10.exx e11) id id np2
    have F12 := k12.host (F10.exx e11) id id np3
    clear hlog hsl hrl htx G10 K10 N10 F10 T10 ht11 b12 k12 e11
    -- near begins
    refine q_callM (args := fun z => [V.str z]) tx (ev_var rfl) (ea_cons (ev_var rfl) ea_nil) N12 (fun _ _ => ⟨rfl, rfl⟩) fun tn' pn' H13 N13 htn hpn fm => ?_
    obtain ⟨⟨dxn, fsn, hn1⟩, ⟨kvn, hn2⟩, _⟩ := N12.some
    have k13 := Kp.frm fm hn1 hn2
    have G13 := k13.giver G12 ne2 id
    have K13 := k13.taker K12 ne4 nd1
    have F13 := k13.host F12 (Ne.symm ne6) (Ne.symm nd3) id
    obtain ⟨A2, B2, C2, ht12, ht12'⟩ := T12
    have T13 : Tin H13 pt 1 := ⟨A2, B2, C2, k13.l _ _ id ht12, ht12'⟩
    have nd1' : tt ≠ tn' := by obtain ⟨_, _, h⟩ := K12.some; exact Ne.symm (on_ne htn (Ne.symm nd1) h)
    have nd3' : tn' ≠ tf := by obtain ⟨_, ⟨_, h⟩, _⟩ := F12.some; exact on_ne htn nd3 h
    have np2' : pn' ≠ pt := on_ne hpn np2 ht12
    -- the air
    refine q_asgL (el_lst ea_nil (by show 0 ≤ 100000; decide)) fun po H14 hpo e14 h14 => ?_
    have W0 : W6 T.aHost T.aGiver T.aTaker pt po gv tk nr fr 1 GiverS.new TakerS.new { HostS.new 3 with phase := "runs", text := some tx } (HostS.new 8) [] H14 := by
      refine ⟨⟨pg, tt, tn', pn', tf, pf⟩, T13.ex e14, h14, G13.ex e14, K13.ex e14, N13.exx e14, F13.exx e14, ⟨nd1', nd2, nd3'⟩, ⟨⟨np1, ?_⟩, ⟨np2', ?_⟩, ⟨np3, ?_⟩⟩, ⟨ne1, ne2, ne3, ne4, ne5, ne6⟩, ?_, fun q hq => (by cases hq)⟩
      · obtain ⟨_, _, h⟩ := G13.some; exact Ne.symm (ne_new hpo h)
      · obtain ⟨_, _, _, h⟩ := N13.some; exact Ne.symm (ne_new hpo h)
      · obtain ⟨_, _, _, h⟩ := F13.some; exact Ne.symm (ne_new hpo h)
      · rintro rfl; exact T13.some hpo
    have I0 : One tx (fun _ => []) GiverS.new TakerS.new { HostS.new 3 with phase := "runs", text := some tx } (HostS.new 8) := one_begin rfl
    clear G12 K12 N12 F12 G13 K13 N13 F13 T13 k13 nd1 nd2 nd3 np1 np2 np3 nd1' nd3' np2' fm hn1 hn2 ht12 ht12' htn hpn ne1 ne2 ne3 ne4 ne5 ne6 hpo e14 h14
    refine q_forR1 (n := 60) (ea_cons ev_c ea_nil) (by decide) (by decide) fun H15 e15 => ?_
    refine loop_on (walk_range (lo := 0) (n := (60 : Int).toNat)) (fun i σ' H' => OneSt T.aHost T.aGiver T.aTaker pt gv tk nr fr po tx (some (.ref a)) (10 + 3 * i) (66 * i) σ' H') ?_ (fun _ _ _ _ _ => trivial) ?_ ?_
    · exact ⟨_, _, _, _, _, _, _, _, _, _, fun _ => [], _, _, _, _, [], 1, rfl, W0.ex e15, I0, (fun q hq => by cases hq), by omega, Nat.zero_le _⟩
    · rintro i x σ H16 H17 hi ⟨v8, v9, v10, v11, v12, v13, v14, v15, v16, v17, pcs, g, t, n, f, os, b, rfl, W, I, hM, hb, hol⟩ ⟨rfl, rfl⟩
      have hi60 : i < 60 := by have : (60 : Int).toNat = 60 := rfl; omega
      -- what kind
      refine q_asgK (take_at (n := 10) (ev_var rfl) ev_c W.tin (by omega) (by decide) (by decide) fun kd H18 ka kb T18 b18 => ?_)
      have W1 := W.box T18 b18
      clear W T18 b18
      refine q_cut (M := OneSt T.aHost T.aGiver T.aTaker pt gv tk nr fr po tx (some (.ref a)) (10 + 3 * i + 3) (66 * i + 66)) ?_ ?_
      · obtain ⟨pg1, G1, kG1⟩ := W1.giver
        refine s_if (b := decide (V.int kd = V.int 0) && decide (V.str g.phase = V.str "runs")) (et_and (et_test (ev_op (ev_var rfl) ev_c (rv_eq rfl))) fun _ => et_test (ev_op (ev_getG (f := fun s => .str s.phase) (ev_var rfl) G1) ev_c (rv_eq rfl))) (fun hc H19 e19 => ?_) (fun hc H19 e19 => ?_)
        · -- freezing
          rw [Bool.and_eq_true, decide_eq_true_eq, decide_eq_true_eq] at hc
          have hp : g.phase = "runs" := V.str.inj hc.2
          have W2 := W1.ex e19
          refine q_asgK (t_call (t_cons (t_ev (ev_var rfl) fun H20 e20 => t_cons (t_op (t_ev ev_c fun H21 e21 => take_at (n := 6) (ev_var rfl) ev_c ((W2.ex e20).ex e21).tin (by omega) (by decide) (by decide) fun r5 H22 r5a r5b T22 b22 => ⟨1, r5, rfl, rfl, t_nil ⟨tx, 1 + r5, rfl, by omega, by omega, by omega, by omega, fun v H23 e23 hv => ?_⟩⟩)))))
          have W3 := (((W2.ex e20).ex e21).box T22 b22).ex e23
          have hcn := chN_ge (z := tx) (n := 1 + r5) (by omega) (by omega)
          have hcl := chunks_len (z := tx) (n := 1 + r5)
          have hz : GoodP tx (chunks tx (1 + r5)) := ⟨by rw [hcl]; exact hcn.2.1, by rw [hcl]; omega, fun x hx => ⟨by have := chunks_small x hx; omega, chunks_all htx2 x hx⟩, chunks_join (by omega) (by omega)⟩
          have hne : chunks tx (1 + r5) ≠ [] := fun e => by have := hz.n0; rw [e] at this; exact absurd this (by decide)
          obtain ⟨I', M'⟩ := one_freeze I hp hz
          obtain ⟨tdn, pln, N3, kN3⟩ := W3.near
          refine sx_whenK (tx_not (tx_B (t_call (t_cons ?_))))
          refine m_H (FzA.mk 8 v (chunks tx (1 + r5)) (.list ((chunks tx (1 + r5)).map PyData.str))) (ev_var rfl) (ea_cons ev_c (ea_cons (ev_var rfl) ea_nil)) N3 (fun H' e' => ⟨one_near_runs I hp, by show (0 : Int) ≤ 8; decide, by rw [I.nn]; show (8 : Int) ≠ 3; decide, hv.ex e', .inl rfl, hne, by have := hz.n1; show (chunks tx (1 + r5)).length ≤ 30000; omega⟩) fun td' pl' H24 hh htd hpl fm => ?_
          have W4 := kN3 td' pl' H24 _ hh htd hpl fm
          obtain ⟨⟨dxn, fsn, hn1⟩, ⟨kvn, hn2⟩, _⟩ := N3.some
          have hv4 := (Kp.frm fm hn1 hn2).daL hv
          obtain ⟨pg4, G4, kG4⟩ := W4.giver
          refine t_cons (m_G (PzA.mk v (chunks tx (1 + r5))) (ev_var rfl) (ea_cons (ev_var rfl) ea_nil) G4 (fun H' e' => ⟨hp, hv4.ex e'⟩) fun pl5 H25 hh5 hpl5 b25 => t_nil ?_)
          have W5 := kG4 pl5 H25 _ hh5 hpl5 b25
          refine ⟨_, _, .int (g.number + 1), rfl, by show Da N0 _ (.int (n.tri + 1)) _; rw [I.nr.2.1]; exact .int _, .int _, trivial, fun H26 e26 => ⟨true, rfl, ?_⟩⟩
          rw [if_neg (by decide)]
          exact ⟨_, _, _, _, _, _, _, _, _, _, _, _, _, _, _, os, _, rfl, W5.ex e26, I', fun q hq => M' _ _ (hM q hq), by omega, by omega⟩
        · obtain ⟨pg2, G2, kG2⟩ := (W1.ex e19).giver
          refine s_if (b := decide (V.int kd = V.int 1) && decide (V.str g.phase = V.str "frozen")) (et_and (et_test (ev_op (ev_var rfl) ev_c (rv_eq rfl))) fun _ => et_test (ev_op (ev_getG (f := fun s => .str s.phase) (ev_var rfl) G2) ev_c (rv_eq rfl))) (fun hc H20 e20 => ?_) (fun hc H20 e20 => ?_)
          · -- resuming
            rw [Bool.and_eq_true, decide_eq_true_eq, decide_eq_true_eq] at hc
            have hp : g.phase = "frozen" := V.str.inj hc.2
            obtain ⟨pg3, G3, kG3⟩ := ((W1.ex e19).ex e20).giver
            refine s_callG () (ev_var rfl) ea_nil G3 (fun _ _ => hp) fun pl5 H21 hh5 hpl5 b21 => ?_
            have W4 := kG3 pl5 H21 _ hh5 hpl5 b21
            obtain ⟨tdn, pln, N4, kN4⟩ := W4.near
            refine s_callM () (ev_var rfl) ea_nil N4 (fun _ _ => one_near_ph I hp) fun td' pl' H22 hh htd hpl fm => ?_
            have W5 := kN4 td' pl' H22 _ hh htd hpl fm
            exact ⟨_, _, _, _, _, _, _, _, _, _, pcs, _, _, _, _, os, _, rfl, W5, one_resume I hp, fun q hq => (hM q hq).up (Int.le_refl _) (fun _ _ => rfl), by omega, by omega⟩
          · have W2 := (W1.ex e19).ex e20
            refine s_if (b := decide (kd < 5)) (et_test (ev_op (ev_var rfl) ev_c rv_I0)) (fun hc H21 e21 => ?_) (fun hc H21 e21 => ?_)
            · -- telling
              have W3 := W2.ex e21
              obtain ⟨pg3, G3, kG3⟩ := W3.giver
              refine q_cut (M := fun σ' H' => ∃ (v11' : Option V) (os' : List Air), σ' = S6 pt gv tk nr fr po tx (some (.ref a)) (some (.int (0 + (i : Nat)))) (some (.int kd)) v10 v11' v12 v13 v14 v15 v16 v17 ∧ W6 T.aHost T.aGiver T.aTaker pt po gv tk nr fr (b + 1) g t n f os' H' ∧ (∀ q ∈ os', MO pcs g q.far q.m) ∧ os'.length ≤ os.length + 64) ?_ ?_
              · refine tell6 (far := true) (ms := g.msgs) W3 hM (fun m hm => mo_giver I hm) (by omega) (giver_len I) rfl (fun Q q => m_gmsgs (ev_var rfl) G3 (giver_pcs I) q) fun v11' os' H' W' hM' hl' => ?_
                exact ⟨v11', os', rfl, W', hM', by have := giver_len I; omega⟩
              · rintro σ' H22 ⟨v11', os', rfl, W4, hM', hl'⟩
                obtain ⟨td4, K4, kK4⟩ := W4.taker
                refine tell6 (far := false) (ms := t.msgs) W4 hM' (fun m hm => mo_taker I hm) (by omega) (Nat.le_trans taker_len (by decide)) rfl (fun Q q => m_kmsgs (ev_var rfl) K4 q) fun v11'' os'' H' W' hM'' hl'' => ?_
                exact ⟨_, _, _, _, _, _, _, _, _, _, pcs, _, _, _, _, os'', _, rfl, W', I, hM'', by omega, by have := taker_len (t := t); omega⟩
            · -- delivering
              have W3 := W2.ex e21
              refine s_when (b := !PyData.eqv (.list (os.map airD)) (.list [])) (et_test (ev_neD (ed_var rfl W3.airD) (ed_lst da_nil (of_decide_eq_true rfl)) (airs_shaped fun q hq => (hM q hq).1) rfl)) (fun hc2 H22 e22 => ?_) (fun _ H22 e22 => ?_)
              · rw [eqv_nil] at hc2
                have hlen : 0 < os.length := by
                  cases os with
                  | nil => exact absurd hc2 (by decide)
                  | cons q l => exact Nat.succ_pos _
                have W4 := W3.ex e22
                refine q_asgK (t_pick (Pr := fun r H' => 0 ≤ r ∧ r < os.length ∧ W6 T.aHost T.aGiver T.aTaker pt po gv tk nr fr (b + 2) g t n f os H') ?_ ?_)
                · rintro r H23 ⟨r0, r1, W5⟩
                  obtain ⟨j, rfl⟩ : ∃ j : Nat, r = (j : Int) := ⟨r.toNat, by omega⟩
                  have hj : j < os.length := by omega
                  obtain ⟨q, hq, hq2⟩ : ∃ q, q ∈ os ∧ os[j]? = some q := ⟨os[j], List.getElem_mem hj, List.getElem?_eq_getElem hj⟩
                  obtain ⟨v, g1, g2⟩ := W5.msg q hq
                  obtain ⟨hmok, hmh, _⟩ := hM q hq
                  refine (ev_ixL (v := .ref q.a) (ev_var rfl) (ev_var rfl) W5.air (atI_nat (by rw [List.getElem?_map, hq2]; rfl))) H23 (Ex.refl H23) _ fun H24 e24 => ⟨q.a, _, rfl, sq_of (e24 _ _ g1), rfl, g_cons (g_nm (g_cons (g_nm (g_nil ?_))))⟩
                  have W6' := W5.ex e24
                  have hv := g2.ex e24
                  clear W5 g1 g2
                  dsimp only
                  refine q_when (b := false) (et_is (a := !true) (et_not (et_B (b := true) (ev_edB (ed_call (da_cons (ed_call (da_cons (ed_var rfl hv) da_nil) (spFun_D (f := hopF) (C := CHop) ⟨q.m, rfl⟩)) da_nil) (spFun_D (f := fun _ => .bool true) (C := fun d => ∃ m : Msg, m.ok ∧ d = m.d) ⟨q.m, hmok, hopF_sd hmh⟩))))) rfl) (fun z => nomatch z) fun _ H25 e25 => ?_
                  have W7 := W6'.ex e25
                  have hv7 := hv.ex e25
                  refine s_if (b := decide (V.str (far? q.far) = V.str "taker")) (et_test (ev_op (ev_var rfl) ev_c (rv_eq rfl))) (fun hf H26 e26 => ?_) (fun hf H26 e26 => ?_)
                  · have hfar : q.far = true := by
                      cases hq : q.far with
                      | true => rfl
                      | false => rw [hq] at hf; exact absurd hf (by decide +kernel)
                    have hMq := hM q hq
                    rw [hfar] at hMq
                    obtain ⟨td8, K8, kK8⟩ := (W7.ex e26).taker
                    have hv8 := hv7.ex e26
                    refine s_callT (MvA.mk v q.m) (ev_var rfl) (ea_cons (ev_var rfl) ea_nil) K8 (fun H' e' => ⟨hv8.ex e', taker_pcs I⟩) fun td' H27 hh ht fm => ?_
                    have W9 := kK8 td' H27 _ hh ht fm
                    obtain ⟨⟨dxk, fsk, hk1⟩, kvk, hk2⟩ := K8.some
                    have hv9 := (Kp.frm fm hk1 hk2).da (noL_sd _) hv8
                    obtain ⟨tdf, plf, F9, kF9⟩ := W9.far
                    refine s_hopRecv (ev_var rfl) rfl F9 hv9 hmh hmok (by decide) I.fok fun td2 pl2 H28 hh2 ht2 hp2 fm2 => ?_
                    exact ⟨_, _, _, _, _, _, _, _, _, _, pcs, _, _, _, _, os, _, rfl, kF9 td2 pl2 H28 _ hh2 ht2 hp2 fm2, one_taker I hMq, hM, by omega, by omega⟩
                  · have hfar : q.far = false := by
                      cases hq : q.far with
                      | false => rfl
                      | true => rw [hq] at hf; exact absurd hf (by decide +kernel)
                    have hMq := hM q hq
                    rw [hfar] at hMq
                    obtain ⟨pg8, G8, kG8⟩ := (W7.ex e26).giver
                    have hv8 := hv7.ex e26
                    refine s_callG (MvA.mk v q.m) (ev_var rfl) (ea_cons (ev_var rfl) ea_nil) G8 (fun H' e' => ⟨hv8.ex e', hmok⟩) fun pl' H27 hh hp bb => ?_
                    have W9 := kG8 pl' H27 _ hh hp bb
                    obtain ⟨⟨dxk, fsk, hk1⟩, _⟩ := G8.some
                    have hv9 := (Kp.butI bb hk1).da (noL_sd _) hv8
                    obtain ⟨tdn, pln, N9, kN9⟩ := W9.near
                    refine s_hopRecv (ev_var rfl) rfl N9 hv9 hmh hmok (by decide) I.nok fun td2 pl2 H28 hh2 ht2 hp2 fm2 => ?_
                    have I' := one_giver I hMq
                    have hgn : (g.receive q.m).number = g.number := by
                      cases q.m <;> unfold GiverS.receive <;> (first | rfl | (dsimp only; split <;> rfl))
                    exact ⟨_, _, _, _, _, _, _, _, _, _, pcs, _, _, _, _, os, _, rfl, kN9 td2 pl2 H28 _ hh2 ht2 hp2 fm2, I', fun x hx => (hM x hx).up (by rw [hgn]; exact Int.le_refl _) (fun _ _ => rfl), by omega, by omega⟩
                · intro Q' q'
                  have hlenE : ∀ H', Ex H22 H' → Ev (tCB (rLenU K) (tCons (tVar 7) tNil)) (S6 pt gv tk nr fr po tx (some (.ref a)) (some (.int (0 + (i : Nat)))) (some (.int kd)) v10 v11 v12 v13 v14 v15 v16 v17) H' (.int os.length) := fun H' e' => ev_is (ev_len1 (ev_var rfl) (W4.ex e').air) (by rw [List.length_map])
                  refine t_tif (b := decide (kd < 9)) (et_test (ev_op (ev_var rfl) ev_c rv_I0)) (fun _ H23 e23 => ?_) (fun _ H23 e23 => ?_)
                  · refine t_op (t_ev (v := .int ((os.length : Int) - 1)) (ev_op (hlenE _ e23) ev_c rv_I0) fun H24 e24 => take_at (n := if (8 : Int) < os.length then 8 else os.length) (ev_var rfl) (ex_min2 (hlenE _ (e23.trans e24)) ev_c) ((W4.ex e23).ex e24).tin (by omega) (by split <;> omega) (by split <;> omega) fun r H25 ra rb T25 b25 => ⟨_, r, rfl, rfl, q' _ _ ⟨?_, ?_, (((W4.ex e23).ex e24).box T25 b25).le (by omega)⟩⟩)
                    · split at rb <;> omega
                    · omega
                  · exact take_at (n := os.length) (ev_var rfl) (hlenE _ e23) (W4.ex e23).tin (by omega) (by omega) (by omega) fun r H25 ra rb T25 b25 => q' _ _ ⟨ra, rb, ((W4.ex e23).box T25 b25).le (by omega)⟩
              · exact ⟨_, _, _, _, _, _, _, _, _, _, pcs, _, _, _, _, os, _, rfl, W3.ex e22, I, hM, by omega, by omega⟩
      · -- what is seen
        rintro σ' H30 ⟨v8, v9, v10, v11, v12, v13, v14, v15, v16, v17, pcs, g, t, n, f, os, b, rfl, W, I, hM, hb, hol⟩
        obtain ⟨pg1, G1, _⟩ := W.giver
        obtain ⟨tdk, K1, _⟩ := W.taker
        obtain ⟨tdn, pln, N1, _⟩ := W.near
        obtain ⟨tdf, plf, F1, _⟩ := W.far
        refine q_asg (v := .bl (gknows g)) (ev_is (ev_andV (a := decide (V.str g.phase = V.str "given")) (b := PyData.eqv (.list (g.msgs.map Msg.sd)) (.list [])) (ev_op (ev_getG (f := fun s => .str s.phase) (ev_var rfl) G1) ev_c (rv_eq rfl)) fun _ => ev_eqW (ew_gmsgs (ev_var rfl) G1 (giver_pcs I)) (ed_lst da_nil (of_decide_eq_true rfl)) (sds_shaped fun m h => (mo_giver I h).1) rfl) (by rw [knows_eq])) fun H31 e31 => ?_
        have N2 := N1.exx e31
        have F2 := F1.exx e31
        refine q_asgW (d := .list [.str n.phase, .list n.msgsD, .list f.msgsD, oSD f.running, .str f.phase, oSD n.running, .int n.hop])
          (ew_lst (ew_cons (ew_ed (ed_ev (ev_get (f := fun s => .str s.phase) (ev_var rfl) N2) (.str _))) (ew_cons (ew_hmsgs (ev_var rfl) N2 I.nok.small.2.2) (ew_cons (ew_hmsgs (ev_var rfl) F2 I.fok.small.2.2)
            (ew_cons (ew_ed (ed_ev (ev_get (f := fun s => oS s.running) (ev_var rfl) F2) (oS_da _))) (ew_cons (ew_ed (ed_ev (ev_get (f := fun s => .str s.phase) (ev_var rfl) F2) (.str _))) (ew_cons (ew_ed (ed_ev (ev_get (f := fun s => oS s.running) (ev_var rfl) N2) (oS_da _)))
              (ew_cons (ew_ed (ed_ev (ev_get (f := fun s => .int s.hop) (ev_var rfl) N2) (.int _))) ew_nil))))))) (of_decide_eq_true rfl)) fun vg H32 e32 hvg => ?_
        have G3 := (G1.ex e31).ex e32
        have K3 := (K1.ex e31).ex e32
        refine q_asgW (d := .list [.str n.phase, .list n.msgsD, .list f.msgsD]) (ew_lst (ew_cons (ew_if (b := gknows g) (et_B (ev_var rfl)) (fun hb => ?_) (fun hb => ?_)) (ew_cons ?_ (ew_cons ?_ ew_nil))) (of_decide_eq_true rfl)) fun vd H33 e33 hvd => ?_
        · rw [one_phase I, if_pos hb]; exact ew_ed (ed_ev ev_c (.str _))
        · rw [one_phase I, if_neg (by rw [hb]; decide)]; exact ew_ed (ed_ev (ev_getG (f := fun s => .str s.phase) (ev_var rfl) G3) (.str _))
        · rw [one_nmsgs I]
          exact ew_hops (ew_gmsgs (ev_var rfl) G3 (giver_pcs I)) (fun m h => (mo_giver I h).2.1) (by have := giver_len I; omega) (fun _ => rfl) (fun _ => rfl)
        · rw [one_fmsgs I]
          exact ew_hops (ew_kmsgs (ev_var rfl) K3) (fun m h => (mo_taker I h).2.1) (by have := taker_len (t := t); omega) (fun _ => rfl) (fun _ => rfl)
        have G4 := G3.ex e33
        have K4 := K3.ex e33
        refine q_asgW (d := .list ([.str n.phase, .list n.msgsD, .list f.msgsD] ++ [oSD f.running, .str f.phase, oSD n.running, .int n.hop])) (ew_cat (ew_ed (ed_var rfl hvd)) (ew_lst (ew_cons ?_ (ew_cons ?_ (ew_cons ?_ (ew_cons ?_ ew_nil)))) (of_decide_eq_true rfl)) (of_decide_eq_true rfl)) fun ve H34 e34 hve => ?_
        · rw [one_frun I]
          exact ew_ed (ed_ev (ev_runO (ev_var rfl) K4 (one_full I)) (oS_da _))
        · rw [one_fphase I]
          refine ew_if (b := decide (oS (if t.runs = true then some tx else none) = V.non)) (et_B (ev_isN (ev_runO (ev_var rfl) K4 (one_full I)))) (fun hb => ?_) (fun hb => ?_)
          · have hb := of_decide_eq_true hb
            by_cases c : t.runs = true
            · rw [if_pos c] at hb; cases hb
            · rw [if_neg c]; exact ew_ed (ed_ev ev_c (.str _))
          · have hb := of_decide_eq_false hb
            by_cases c : t.runs = true
            · rw [if_pos c]; exact ew_ed (ed_ev ev_c (.str _))
            · rw [if_neg c] at hb; exact absurd rfl hb
        · rw [one_nrun I]
          refine ew_if (b := decide (V.str g.phase = V.str "runs")) (et_test (ev_op (ev_getG (f := fun s => .str s.phase) (ev_var rfl) G4) ev_c (rv_eq rfl))) (fun hb => ?_) (fun hb => ?_)
          · rw [if_pos (V.str.inj (of_decide_eq_true hb))]
            exact ew_ed (ed_ev (ev_var rfl) (.str _))
          · rw [if_neg fun z => (of_decide_eq_false hb) (by rw [z])]
            exact ew_ed (ed_ev ev_c .non)
        · rw [I.nr.1]
          exact ew_ed (ed_ev ev_c (.int _))
        have K5 := K4.ex e34
        have hok : okD 5 (.list [.str n.phase, .list n.msgsD, .list f.msgsD, oSD f.running, .str f.phase, oSD n.running, .int n.hop]) := by
          refine ⟨by show 7 ≤ 30000; decide, fun d hd => ?_⟩
          simp only [List.mem_cons, List.not_mem_nil, or_false] at hd
          rcases hd with rfl | rfl | rfl | rfl | rfl | rfl | rfl
          · trivial
          · rw [one_nmsgs I]; exact okD_sameL (by have := giver_len I; omega)
          · rw [one_fmsgs I]; exact okD_sameL (by have := taker_len (t := t); omega)
          · cases f.running <;> trivial
          · trivial
          · cases n.running <;> trivial
          · trivial
        refine s_when (b := false) (et_is (a := !true || ((!decide (oS (if t.runs = true then some tx else none) = V.non)) && !decide (oS (if t.runs = true then some tx else none) = V.str tx))) (et_or (et_not (et_B (b := true) (ev_edB (ed_call (da_cons (ed_var rfl ((hvg.ex e33).ex e34)) (da_cons (ed_var rfl hve) da_nil)) (spSame_D hok))))) fun _ => et_and (et_B (ev_notN (ev_runO (ev_var rfl) K5 (one_full I)))) fun _ => et_test (ev_op (ev_runO (ev_var rfl) K5 (one_full I)) (ev_var rfl) (rv_ne ?_))) ?_) (fun z => nomatch z) fun _ H35 e35 => ?_
        · split <;> rfl
        · by_cases c : t.runs = true
          · rw [if_pos c]; simp [oS]
          · rw [if_neg c]; simp [oS]
        · exact ⟨_, _, _, _, _, _, _, _, _, _, pcs, g, t, n, f, os, b, rfl, (((((W.ex e31).ex e32).ex e33).ex e34).ex e35), I, hM, by omega, by omega⟩
    · rintro σ' H16 _
      dsimp only
      refine s_ret (v := .bl true) ev_c fun H17 _ => ?_
      exact k H17
end
end Rel
end
/-! the head of the row treethaw_k77_across_one_hop_and_a_giver -/
namespace Rel
open PySem PySem.Spec PyProof.Rows L2 Evl
theorem dicC_of {K : PySem.W.Frag} {w : World} {a : Addr} {kvs : List (Str × Int)} {out : List Str} (h : ∃ es n, KDict K w a es n) {ks : List (Str × Int)} (e : kvs = ks) (hv : He.valsB K a (ks.map fun q => (q.1, .int q.2)) = true) (ho : ∀ z ∈ out, PySem.W.nsIn K a z = some none) : DicC K w a kvs out := by
  subst e
  refine ⟨h, fun q hq => ?_, ho⟩
  obtain ⟨u, h1, t, h2⟩ := He.valsB_ok hv (q := (q.1, .int q.2)) (List.mem_map.mpr ⟨q, hq, rfl⟩)
  exact ⟨t, by rw [h1, h2]⟩
abbrev hdis_number : He.DefD := ⟨("is_number", none), "is_number", "is_number", defArgs sis_number, defBody sis_number, defScope sis_number, [], []⟩
abbrev hdas_tuples : He.DefD := ⟨("as_tuples", none), "as_tuples", "as_tuples", defArgs sas_tuples, defBody sas_tuples, defScope sas_tuples, [], []⟩
abbrev hdare_pieces : He.DefD := ⟨("are_pieces", none), "are_pieces", "are_pieces", defArgs sare_pieces, defBody sare_pieces, defScope sare_pieces, [], []⟩
abbrev hd_law_same : He.DefD := ⟨("_law_same", none), "_law_same", "_law_same", defArgs s_law_same, defBody s_law_same, defScope s_law_same, [], []⟩
abbrev hdcut : He.DefD := ⟨("cut", none), "cut", "cut", defArgs scut, defBody scut, defScope scut, [], []⟩
abbrev hd_law_take : He.DefD := ⟨("_law_take", none), "_law_take", "_law_take", defArgs s_law_take, defBody s_law_take, defScope s_law_take, [], []⟩
abbrev hd_law_box : He.DefD := ⟨("_law_box", none), "_law_box", "_law_box", defArgs s_law_box, defBody s_law_box, defScope s_law_box, [], []⟩
abbrev hd_law_cells : He.DefD := ⟨("_law_cells", none), "_law_cells", "_law_cells", defArgs s_law_cells, defBody s_law_cells, defScope s_law_cells, [], []⟩
abbrev hdHost_number : He.DefD := ⟨("Host", some "number"), "number", "Host.number", defArgs sHost_number, defBody sHost_number, defScope sHost_number, [], []⟩
abbrev hdHost_phase : He.DefD := ⟨("Host", some "phase"), "phase", "Host.phase", defArgs sHost_phase, defBody sHost_phase, defScope sHost_phase, [], []⟩
abbrev hdHost_hop : He.DefD := ⟨("Host", some "hop"), "hop", "Host.hop", defArgs sHost_hop, defBody sHost_hop, defScope sHost_hop, [], []⟩
abbrev hdHost_running : He.DefD := ⟨("Host", some "running"), "running", "Host.running", defArgs sHost_running, defBody sHost_running, defScope sHost_running, [], []⟩
abbrev hdHost_begin : He.DefD := ⟨("Host", some "begin"), "begin", "Host.begin", defArgs sHost_begin, defBody sHost_begin, defScope sHost_begin, [], []⟩
abbrev hdHost_leave : He.DefD := ⟨("Host", some "leave"), "leave", "Host.leave", defArgs sHost_leave, defBody sHost_leave, defScope sHost_leave, [], []⟩
abbrev hdHost_resume : He.DefD := ⟨("Host", some "resume"), "resume", "Host.resume", defArgs sHost_resume, defBody sHost_resume, defScope sHost_resume, [], []⟩
abbrev hdHost_is_whole : He.DefD := ⟨("Host", some "is_whole"), "is_whole", "Host.is_whole", defArgs sHost_is_whole, defBody sHost_is_whole, defScope sHost_is_whole, [], []⟩
abbrev hdHost_freeze : He.DefD := ⟨("Host", some "freeze"), "freeze", "Host.freeze", defArgs sHost_freeze, defBody sHost_freeze, defScope sHost_freeze, [], []⟩
abbrev hdHost_take_answer : He.DefD := ⟨("Host", some "take_answer"), "take_answer", "Host.take_answer", defArgs sHost_take_answer, defBody sHost_take_answer, defScope sHost_take_answer, [], []⟩
abbrev hdis_relay_message : He.DefD := ⟨("is_relay_message", none), "is_relay_message", "is_relay_message", defArgs sis_relay_message, defBody sis_relay_message, defScope sis_relay_message, [], []⟩
abbrev hdHost_take_piece : He.DefD := ⟨("Host", some "take_piece"), "take_piece", "Host.take_piece", defArgs sHost_take_piece, defBody sHost_take_piece, defScope sHost_take_piece, [], []⟩
abbrev hdHost_take_go : He.DefD := ⟨("Host", some "take_go"), "take_go", "Host.take_go", defArgs sHost_take_go, defBody sHost_take_go, defScope sHost_take_go, [], []⟩
abbrev hdHost_receive : He.DefD := ⟨("Host", some "receive"), "receive", "Host.receive", defArgs sHost_receive, defBody sHost_receive, defScope sHost_receive, [], []⟩
abbrev hdHost_messages : He.DefD := ⟨("Host", some "messages"), "messages", "Host.messages", defArgs sHost_messages, defBody sHost_messages, defScope sHost_messages, [], []⟩
abbrev hdHost___init__ : He.DefD := ⟨("Host", some "__init__"), "__init__", "Host.__init__", defArgs sHost___init__, defBody sHost___init__, defScope sHost___init__, [], []⟩
abbrev hd_law_as_hop : He.DefD := ⟨("_law_as_hop", none), "_law_as_hop", "_law_as_hop", defArgs s_law_as_hop, defBody s_law_as_hop, defScope s_law_as_hop, [], []⟩
abbrev hdGiver___init__ : He.DefD := ⟨("Giver", some "__init__"), "__init__", "Giver.__init__", defArgs sGiver___init__, defBody sGiver___init__, defScope sGiver___init__, [], []⟩
abbrev hdGiver_phase : He.DefD := ⟨("Giver", some "phase"), "phase", "Giver.phase", defArgs sGiver_phase, defBody sGiver_phase, defScope sGiver_phase, [], []⟩
abbrev hdGiver_freeze : He.DefD := ⟨("Giver", some "freeze"), "freeze", "Giver.freeze", defArgs sGiver_freeze, defBody sGiver_freeze, defScope sGiver_freeze, [], []⟩
abbrev hdGiver_resume : He.DefD := ⟨("Giver", some "resume"), "resume", "Giver.resume", defArgs sGiver_resume, defBody sGiver_resume, defScope sGiver_resume, [], []⟩
abbrev hdGiver_receive : He.DefD := ⟨("Giver", some "receive"), "receive", "Giver.receive", defArgs sGiver_receive, defBody sGiver_receive, defScope sGiver_receive, [], []⟩
abbrev hdGiver_messages : He.DefD := ⟨("Giver", some "messages"), "messages", "Giver.messages", defArgs sGiver_messages, defBody sGiver_messages, defScope sGiver_messages, [], []⟩
abbrev hdTaker___init__ : He.DefD := ⟨("Taker", some "__init__"), "__init__", "Taker.__init__", defArgs sTaker___init__, defBody sTaker___init__, defScope sTaker___init__, [], []⟩
abbrev hdTaker_is_whole : He.DefD := ⟨("Taker", some "is_whole"), "is_whole", "Taker.is_whole", defArgs sTaker_is_whole, defBody sTaker_is_whole, defScope sTaker_is_whole, [], []⟩
abbrev hdTaker_keep : He.DefD := ⟨("Taker", some "keep"), "keep", "Taker.keep", defArgs sTaker_keep, defBody sTaker_keep, defScope sTaker_keep, [], []⟩
abbrev hdTaker_receive : He.DefD := ⟨("Taker", some "receive"), "receive", "Taker.receive", defArgs sTaker_receive, defBody sTaker_receive, defScope sTaker_receive, [], []⟩
abbrev hdTaker_messages : He.DefD := ⟨("Taker", some "messages"), "messages", "Taker.messages", defArgs sTaker_messages, defBody sTaker_messages, defScope sTaker_messages, [], []⟩
abbrev hdTaker_running : He.DefD := ⟨("Taker", some "running"), "running", "Taker.running", defArgs sTaker_running, defBody sTaker_running, defScope sTaker_running, [], []⟩
abbrev hdlaw : He.DefD := ⟨("law", none), "law", "law", defArgs slaw, defBody slaw, defScope slaw, [], []⟩
def hfn : List He.DefD := [hdis_number, hdas_tuples, hdare_pieces, hd_law_same, hdcut, hd_law_take, hd_law_box, hd_law_cells, hdHost_number, hdHost_phase, hdHost_hop, hdHost_running, hdHost_begin, hdHost_leave, hdHost_resume, hdHost_is_whole, hdHost_freeze, hdHost_take_answer, hdis_relay_message, hdHost_take_piece, hdHost_take_go, hdHost_receive, hdHost_messages, hdHost___init__, hd_law_as_hop, hdGiver___init__, hdGiver_phase, hdGiver_freeze, hdGiver_resume, hdGiver_receive, hdGiver_messages, hdTaker___init__, hdTaker_is_whole, hdTaker_keep, hdTaker_receive, hdTaker_messages, hdTaker_running, hdlaw]
def hfa : List He.Fa := [.str "AWAY" "away", .str "RUNS_relay" "runs", .str "FROZEN_relay" "frozen", .str "GIVEN_relay" "given", .str "PIECE_relay" "piece", .str "WHOLE_relay" "whole", .str "GO_relay" "go", .str "GOING_relay" "going", .str "RUNS_moving" "runs", .str "FROZEN_moving" "frozen", .str "GIVEN_moving" "given", .str "PIECE_moving" "piece", .str "WHOLE_moving" "whole", .str "GO_moving" "go", .str "GOING_moving" "going", .free "int", .free "len", .free "abs", .free "isinstance", .free "list", .free "tuple", .free "str", .free "bool", .free "all", .free "any", .free "range", .free "enumerate", .free "zip", .free "min", .free "max", .free "LookupError", .free "ValueError", .free "RuntimeError", .free "dict", .free "sorted", .glo "NotNow", .glo "Unfit", .glo "Host", .cls "Host", .noat "Host" "own_number", .noat "Host" "own_phase", .noat "Host" "own_hop", .noat "Host" "own_try", .noat "Host" "own_text", .noat "Host" "own_goal", .noat "Host" "own_pieces", .noat "Host" "own_taken", .noat "Host" "own_from", .noat "Host" "own_many", .noat "Host" "own_came", .glo "Giver", .cls "Giver", .noat "Giver" "own_phase", .noat "Giver" "own_number", .noat "Giver" "own_pieces", .noat "Giver" "own_is_known", .glo "Taker", .cls "Taker", .noat "Taker" "own_number", .noat "Taker" "own_many", .noat "Taker" "own_pieces", .noat "Taker" "own_runs", .glo "SHAPES", .glo "is_number", .glo "as_tuples", .glo "are_pieces", .glo "_law_same", .glo "cut", .glo "_law_take", .glo "_law_box", .glo "_law_cells", .meth "Host" "number", .meth "Host" "phase", .meth "Host" "hop", .meth "Host" "running", .meth "Host" "begin", .meth "Host" "leave", .meth "Host" "resume", .meth "Host" "is_whole", .meth "Host" "freeze", .meth "Host" "take_answer", .glo "is_relay_message", .meth "Host" "take_piece", .meth "Host" "take_go", .meth "Host" "receive", .meth "Host" "messages", .mkr "Host", .glo "_law_as_hop", .mkr "Giver", .meth "Giver" "phase", .meth "Giver" "freeze", .meth "Giver" "resume", .meth "Giver" "receive", .meth "Giver" "messages", .mkr "Taker", .meth "Taker" "is_whole", .meth "Taker" "keep", .meth "Taker" "receive", .meth "Taker" "messages", .meth "Taker" "running", .glo "law"]
def hts : List He.Tab := [(fun K => He.ga K "SHAPES", ["piece", "whole", "go", "going"])]
def hex (K : PySem.W.Frag) : Bool := (He.valsB K (He.ga K "SHAPES") [("piece", .int 6), ("whole", .int 3), ("go", .int 3), ("going", .int 3)] && He.eqO (PySem.W.nsIn K (He.ga K "SHAPES") "goes") (some none))
abbrev hrow : PySem.W.OpenRow := PySem.W.OpenLaw.row PySem.Challenge.rw_treethaw_k77_across_one_hop_and_a_giver
abbrev hhk : PySem.W.Hook := He.hookX 5 hfa hfn hts [] hex
def hob (s : PySem.W.SharedT) : He.AlX := He.obsX 5 hfa hfn hts [] hex (HandSHeadRun.getT s)
theorem hob_eq (s : PySem.W.SharedT) : hob s = hhk.obs s.abs := He.obsX_eq (HandSHeadRun.getT_eq s)
abbrev hloose : List Str := (["is_number", "NotNow", "Unfit", "as_tuples", "AWAY", "RUNS_relay", "FROZEN_relay", "GIVEN_relay", "PIECE_relay", "WHOLE_relay", "GO_relay", "GOING_relay", "SHAPES", "is_relay_message", "Host", "are_pieces", "RUNS_moving", "FROZEN_moving", "GIVEN_moving", "PIECE_moving", "WHOLE_moving", "GO_moving", "GOING_moving", "cut", "Giver", "Taker", "_law_box", "_law_take", "_law_cells", "_law_same"] : List Str) ++ (["_law_as_hop"] : List Str)
theorem hrun_false (w : World) : HandSHeadRun.RunEq hrow (PySem.W.view hrow.prog [38]) hhk hob 4000 hloose (w.withFollow "special-get-raises" false) := by
  intro os
  kernel_rfl
theorem hrun_true (w : World) : HandSHeadRun.RunEq hrow (PySem.W.view hrow.prog [38]) hhk hob 4000 hloose (w.withFollow "special-get-raises" true) := by
  intro os
  kernel_rfl
theorem hrun (w : World) : HandSHeadRun.RunEq hrow (PySem.W.view hrow.prog [38]) hhk hob 4000 hloose w := PySem.W.byRow2 "special-get-raises" (P := fun w => HandSHeadRun.RunEq hrow (PySem.W.view hrow.prog [38]) hhk hob 4000 hloose w) hrun_false hrun_true w
theorem facts {P : Program} {w : World} {K : PySem.W.Frag} {h : Heap} {mg : Str → Option Value} {f : Addr} (X : K.In h) (G : h.Ns mainGlobals mg) (hl : mg ("law" : Str) = some (.ref f)) (c : He.SaysX hfa hfn hts [] hex w h K) :
    ∃ fd : FuncData, (∀ (s : Shared) (v : Value), BindsTo s fd ⟨[v], []⟩ [("script", v)]) ∧ ∀ base : Heap, K.In base → base.Ns mainGlobals mg → FnOk P w K mg base CX0 6 f fd ["script"] (spLaw K) := by
  have cx0 := c.more
  obtain ⟨tAWAY, gAWAY⟩ := He.str_ok X G (c.t.d.fact 0 (f := .str "AWAY" "away") rfl)
  obtain ⟨tRUNS_relay, gRUNS_relay⟩ := He.str_ok X G (c.t.d.fact 1 (f := .str "RUNS_relay" "runs") rfl)
  obtain ⟨tFROZEN_relay, gFROZEN_relay⟩ := He.str_ok X G (c.t.d.fact 2 (f := .str "FROZEN_relay" "frozen") rfl)
  obtain ⟨tGIVEN_relay, gGIVEN_relay⟩ := He.str_ok X G (c.t.d.fact 3 (f := .str "GIVEN_relay" "given") rfl)
  obtain ⟨tPIECE_relay, gPIECE_relay⟩ := He.str_ok X G (c.t.d.fact 4 (f := .str "PIECE_relay" "piece") rfl)
  obtain ⟨tWHOLE_relay, gWHOLE_relay⟩ := He.str_ok X G (c.t.d.fact 5 (f := .str "WHOLE_relay" "whole") rfl)
  obtain ⟨tGO_relay, gGO_relay⟩ := He.str_ok X G (c.t.d.fact 6 (f := .str "GO_relay" "go") rfl)
  obtain ⟨tGOING_relay, gGOING_relay⟩ := He.str_ok X G (c.t.d.fact 7 (f := .str "GOING_relay" "going") rfl)
  obtain ⟨tRUNS_moving, gRUNS_moving⟩ := He.str_ok X G (c.t.d.fact 8 (f := .str "RUNS_moving" "runs") rfl)
  obtain ⟨tFROZEN_moving, gFROZEN_moving⟩ := He.str_ok X G (c.t.d.fact 9 (f := .str "FROZEN_moving" "frozen") rfl)
  obtain ⟨tGIVEN_moving, gGIVEN_moving⟩ := He.str_ok X G (c.t.d.fact 10 (f := .str "GIVEN_moving" "given") rfl)
  obtain ⟨tPIECE_moving, gPIECE_moving⟩ := He.str_ok X G (c.t.d.fact 11 (f := .str "PIECE_moving" "piece") rfl)
  obtain ⟨tWHOLE_moving, gWHOLE_moving⟩ := He.str_ok X G (c.t.d.fact 12 (f := .str "WHOLE_moving" "whole") rfl)
  obtain ⟨tGO_moving, gGO_moving⟩ := He.str_ok X G (c.t.d.fact 13 (f := .str "GO_moving" "go") rfl)
  obtain ⟨tGOING_moving, gGOING_moving⟩ := He.str_ok X G (c.t.d.fact 14 (f := .str "GOING_moving" "going") rfl)
  have dicSHAPES : DicC K w (He.ga K "SHAPES") [("piece", 6), ("whole", 3), ("go", 3), ("going", 3)] ["goes"] := dicC_of (c.t.tab 0 (t := (fun K => He.ga K "SHAPES", ["piece", "whole", "go", "going"])) rfl) (ks := [("piece", 6), ("whole", 3), ("go", 3), ("going", 3)]) rfl (He.ba cx0).1 (fun z hz => by rw [List.mem_singleton.mp hz]; exact He.eqO_ok (He.ba cx0).2)
  obtain ⟨T, eHost, eGiver, eTaker⟩ : ∃ T : Txt K mg w, T.aHost = He.ga K "Host" ∧ T.aGiver = He.ga K "Giver" ∧ T.aTaker = He.ga K "Taker" := ⟨⟨tAWAY, gAWAY, tRUNS_relay, gRUNS_relay, tFROZEN_relay, gFROZEN_relay, tGIVEN_relay, gGIVEN_relay, tPIECE_relay, gPIECE_relay, tWHOLE_relay, gWHOLE_relay, tGO_relay, gGO_relay, tGOING_relay, gGOING_relay, tRUNS_moving, gRUNS_moving, tFROZEN_moving, gFROZEN_moving, tGIVEN_moving, gGIVEN_moving, tPIECE_moving, gPIECE_moving, tWHOLE_moving, gWHOLE_moving, tGO_moving, gGO_moving, tGOING_moving, gGOING_moving, He.free_ok X G (c.t.d.fact 15 (f := .free "int") rfl), He.free_ok X G (c.t.d.fact 16 (f := .free "len") rfl), He.free_ok X G (c.t.d.fact 17 (f := .free "abs") rfl), He.free_ok X G (c.t.d.fact 18 (f := .free "isinstance") rfl), He.free_ok X G (c.t.d.fact 19 (f := .free "list") rfl), He.free_ok X G (c.t.d.fact 20 (f := .free "tuple") rfl), He.free_ok X G (c.t.d.fact 21 (f := .free "str") rfl), He.free_ok X G (c.t.d.fact 22 (f := .free "bool") rfl), He.free_ok X G (c.t.d.fact 23 (f := .free "all") rfl), He.free_ok X G (c.t.d.fact 24 (f := .free "any") rfl), He.free_ok X G (c.t.d.fact 25 (f := .free "range") rfl), He.free_ok X G (c.t.d.fact 26 (f := .free "enumerate") rfl), He.free_ok X G (c.t.d.fact 27 (f := .free "zip") rfl), He.free_ok X G (c.t.d.fact 28 (f := .free "min") rfl), He.free_ok X G (c.t.d.fact 29 (f := .free "max") rfl), He.free_ok X G (c.t.d.fact 30 (f := .free "LookupError") rfl), He.free_ok X G (c.t.d.fact 31 (f := .free "ValueError") rfl), He.free_ok X G (c.t.d.fact 32 (f := .free "RuntimeError") rfl), He.free_ok X G (c.t.d.fact 33 (f := .free "dict") rfl), He.free_ok X G (c.t.d.fact 34 (f := .free "sorted") rfl), He.ga K "NotNow", He.glo_ok X G (c.t.d.fact 35 (f := .glo "NotNow") rfl), He.ga K "Unfit", He.glo_ok X G (c.t.d.fact 36 (f := .glo "Unfit") rfl), He.ga K "Host", He.glo_ok X G (c.t.d.fact 37 (f := .glo "Host") rfl), He.cls_ok (c.t.d.fact 38 (f := .cls "Host") rfl), He.noat_ok (c.t.d.fact 39 (f := .noat "Host" "own_number") rfl), He.noat_ok (c.t.d.fact 40 (f := .noat "Host" "own_phase") rfl), He.noat_ok (c.t.d.fact 41 (f := .noat "Host" "own_hop") rfl), He.noat_ok (c.t.d.fact 42 (f := .noat "Host" "own_try") rfl), He.noat_ok (c.t.d.fact 43 (f := .noat "Host" "own_text") rfl), He.noat_ok (c.t.d.fact 44 (f := .noat "Host" "own_goal") rfl), He.noat_ok (c.t.d.fact 45 (f := .noat "Host" "own_pieces") rfl), He.noat_ok (c.t.d.fact 46 (f := .noat "Host" "own_taken") rfl), He.noat_ok (c.t.d.fact 47 (f := .noat "Host" "own_from") rfl), He.noat_ok (c.t.d.fact 48 (f := .noat "Host" "own_many") rfl), He.noat_ok (c.t.d.fact 49 (f := .noat "Host" "own_came") rfl), He.ga K "Giver", He.glo_ok X G (c.t.d.fact 50 (f := .glo "Giver") rfl), He.cls_ok (c.t.d.fact 51 (f := .cls "Giver") rfl), He.noat_ok (c.t.d.fact 52 (f := .noat "Giver" "own_phase") rfl), He.noat_ok (c.t.d.fact 53 (f := .noat "Giver" "own_number") rfl), He.noat_ok (c.t.d.fact 54 (f := .noat "Giver" "own_pieces") rfl), He.noat_ok (c.t.d.fact 55 (f := .noat "Giver" "own_is_known") rfl), He.ga K "Taker", He.glo_ok X G (c.t.d.fact 56 (f := .glo "Taker") rfl), He.cls_ok (c.t.d.fact 57 (f := .cls "Taker") rfl), He.noat_ok (c.t.d.fact 58 (f := .noat "Taker" "own_number") rfl), He.noat_ok (c.t.d.fact 59 (f := .noat "Taker" "own_many") rfl), He.noat_ok (c.t.d.fact 60 (f := .noat "Taker" "own_pieces") rfl), He.noat_ok (c.t.d.fact 61 (f := .noat "Taker" "own_runs") rfl), He.ga K "SHAPES", He.glo_ok X G (c.t.d.fact 62 (f := .glo "SHAPES") rfl), dicSHAPES⟩, rfl, rfl, rfl⟩
  have e := hl.symm.trans (He.glo_ok X G (c.t.d.fact 100 (f := .glo "law") rfl))
  cases e
  obtain ⟨fdlaw, Dlaw⟩ := c.t.d.def_ 37 (d := hdlaw) rfl
  have blaw := FunD.bindsA (ps := ["script"]) Dlaw fun _ _ _ _ _ _ us hl => match us, hl with | [_], _ => rfl
  refine ⟨fdlaw, fun s v => blaw s [v] rfl, fun base _ _ => ?_⟩
  obtain ⟨fdis_number, Dis_number⟩ := c.t.d.def_ 0 (d := hdis_number) rfl
  have bis_number : Binds K fdis_number ["thing"] [] := FunD.bindsN (ps := ["thing"]) Dis_number fun _ _ _ _ _ _ us hl => match us, hl with | [_], _ => rfl
  have gis_number : mg "is_number" = some (.ref (He.ga K "is_number")) := He.glo_ok X G (c.t.d.fact 63 (f := .glo "is_number") rfl)
  have Xis_number := Fx.mk (base := base) (P := P) _ _ (ok_is_number Dis_number T) gis_number Dis_number.kp bis_number
  obtain ⟨fdas_tuples, Das_tuples⟩ := c.t.d.def_ 1 (d := hdas_tuples) rfl
  have bas_tuples : Binds K fdas_tuples ["thing"] [] := FunD.bindsN (ps := ["thing"]) Das_tuples fun _ _ _ _ _ _ us hl => match us, hl with | [_], _ => rfl
  have gas_tuples : mg "as_tuples" = some (.ref (He.ga K "as_tuples")) := He.glo_ok X G (c.t.d.fact 64 (f := .glo "as_tuples") rfl)
  have Xas_tuples := Fx.mk (base := base) (P := P) _ _ (ok_as_tuples 4 Das_tuples gas_tuples T) gas_tuples Das_tuples.kp bas_tuples
  obtain ⟨fdare_pieces, Dare_pieces⟩ := c.t.d.def_ 2 (d := hdare_pieces) rfl
  have bare_pieces : Binds K fdare_pieces ["thing"] [] := FunD.bindsN (ps := ["thing"]) Dare_pieces fun _ _ _ _ _ _ us hl => match us, hl with | [_], _ => rfl
  have gare_pieces : mg "are_pieces" = some (.ref (He.ga K "are_pieces")) := He.glo_ok X G (c.t.d.fact 65 (f := .glo "are_pieces") rfl)
  have Xare_pieces := Fx.mk (base := base) (P := P) _ _ (ok_are_pieces Dare_pieces T) gare_pieces Dare_pieces.kp bare_pieces
  obtain ⟨fd_law_same, D_law_same⟩ := c.t.d.def_ 3 (d := hd_law_same) rfl
  have b_law_same : Binds K fd_law_same ["got", "due"] [] := FunD.bindsN (ps := ["got", "due"]) D_law_same fun _ _ _ _ _ _ us hl => match us, hl with | [_, _], _ => rfl
  have g_law_same : mg "_law_same" = some (.ref (He.ga K "_law_same")) := He.glo_ok X G (c.t.d.fact 66 (f := .glo "_law_same") rfl)
  have X_law_same := Fx.mk (base := base) (P := P) _ _ (ok_same 5 D_law_same g_law_same T) g_law_same D_law_same.kp b_law_same
  obtain ⟨fdcut, Dcut⟩ := c.t.d.def_ 4 (d := hdcut) rfl
  have bcut : Binds K fdcut ["text", "size"] [] := FunD.bindsN (ps := ["text", "size"]) Dcut fun _ _ _ _ _ _ us hl => match us, hl with | [_, _], _ => rfl
  have gcut : mg "cut" = some (.ref (He.ga K "cut")) := He.glo_ok X G (c.t.d.fact 67 (f := .glo "cut") rfl)
  have Xcut := Fx.mk (base := base) (P := P) _ _ (ok_cut Dcut T) gcut Dcut.kp bcut
  obtain ⟨fd_law_take, D_law_take⟩ := c.t.d.def_ 5 (d := hd_law_take) rfl
  have b_law_take : Binds K fd_law_take ["tin", "below_so"] [] := FunD.bindsN (ps := ["tin", "below_so"]) D_law_take fun _ _ _ _ _ _ us hl => match us, hl with | [_, _], _ => rfl
  have g_law_take : mg "_law_take" = some (.ref (He.ga K "_law_take")) := He.glo_ok X G (c.t.d.fact 68 (f := .glo "_law_take") rfl)
  have X_law_take := Fx.mk (base := base) (P := P) _ _ (ok_take D_law_take T) g_law_take D_law_take.kp b_law_take
  obtain ⟨fd_law_box, D_law_box⟩ := c.t.d.def_ 6 (d := hd_law_box) rfl
  have b_law_box : Binds K fd_law_box ["script", "k"] [] := FunD.bindsN (ps := ["script", "k"]) D_law_box fun _ _ _ _ _ _ us hl => match us, hl with | [_, _], _ => rfl
  have g_law_box : mg "_law_box" = some (.ref (He.ga K "_law_box")) := He.glo_ok X G (c.t.d.fact 69 (f := .glo "_law_box") rfl)
  have X_law_box := Fx.mk (base := base) (P := P) _ _ (ok_box D_law_box T) g_law_box D_law_box.kp b_law_box
  obtain ⟨fd_law_cells, D_law_cells⟩ := c.t.d.def_ 7 (d := hd_law_cells) rfl
  have b_law_cells : Binds K fd_law_cells ["script", "most_so"] [] := FunD.bindsN (ps := ["script", "most_so"]) D_law_cells fun _ _ _ _ _ _ us hl => match us, hl with | [_, _], _ => rfl
  have g_law_cells : mg "_law_cells" = some (.ref (He.ga K "_law_cells")) := He.glo_ok X G (c.t.d.fact 70 (f := .glo "_law_cells") rfl)
  have X_law_cells := Fx.mk (base := base) (P := P) _ _ (ok_cells D_law_cells T) g_law_cells D_law_cells.kp b_law_cells
  obtain ⟨fdHost_number, DHost_number⟩ := c.t.d.def_ 8 (d := hdHost_number) rfl
  have bHost_number : Binds K fdHost_number ["self"] [] := FunD.bindsN (ps := ["self"]) DHost_number fun _ _ _ _ _ _ us hl => match us, hl with | [_], _ => rfl
  have mHost_number : Meth K T.aHost "number" (He.ma K (He.ga K "Host") "number") := by rw [eHost]; exact He.meth_ok (c.t.d.fact 71 (f := .meth "Host" "number") rfl)
  have XHost_number := Mx.mk (base := base) (P := P) _ _ (ok_Host_number DHost_number T) mHost_number bHost_number
  obtain ⟨fdHost_phase, DHost_phase⟩ := c.t.d.def_ 9 (d := hdHost_phase) rfl
  have bHost_phase : Binds K fdHost_phase ["self"] [] := FunD.bindsN (ps := ["self"]) DHost_phase fun _ _ _ _ _ _ us hl => match us, hl with | [_], _ => rfl
  have mHost_phase : Meth K T.aHost "phase" (He.ma K (He.ga K "Host") "phase") := by rw [eHost]; exact He.meth_ok (c.t.d.fact 72 (f := .meth "Host" "phase") rfl)
  have XHost_phase := Mx.mk (base := base) (P := P) _ _ (ok_Host_phase DHost_phase T) mHost_phase bHost_phase
  obtain ⟨fdHost_hop, DHost_hop⟩ := c.t.d.def_ 10 (d := hdHost_hop) rfl
  have bHost_hop : Binds K fdHost_hop ["self"] [] := FunD.bindsN (ps := ["self"]) DHost_hop fun _ _ _ _ _ _ us hl => match us, hl with | [_], _ => rfl
  have mHost_hop : Meth K T.aHost "hop" (He.ma K (He.ga K "Host") "hop") := by rw [eHost]; exact He.meth_ok (c.t.d.fact 73 (f := .meth "Host" "hop") rfl)
  have XHost_hop := Mx.mk (base := base) (P := P) _ _ (ok_Host_hop DHost_hop T) mHost_hop bHost_hop
  obtain ⟨fdHost_running, DHost_running⟩ := c.t.d.def_ 11 (d := hdHost_running) rfl
  have bHost_running : Binds K fdHost_running ["self"] [] := FunD.bindsN (ps := ["self"]) DHost_running fun _ _ _ _ _ _ us hl => match us, hl with | [_], _ => rfl
  have mHost_running : Meth K T.aHost "running" (He.ma K (He.ga K "Host") "running") := by rw [eHost]; exact He.meth_ok (c.t.d.fact 74 (f := .meth "Host" "running") rfl)
  have XHost_running := Mx.mk (base := base) (P := P) _ _ (ok_Host_running DHost_running T) mHost_running bHost_running
  obtain ⟨fdHost_begin, DHost_begin⟩ := c.t.d.def_ 12 (d := hdHost_begin) rfl
  have bHost_begin : Binds K fdHost_begin ["self", "text"] [] := FunD.bindsN (ps := ["self", "text"]) DHost_begin fun _ _ _ _ _ _ us hl => match us, hl with | [_, _], _ => rfl
  have mHost_begin : Meth K T.aHost "begin" (He.ma K (He.ga K "Host") "begin") := by rw [eHost]; exact He.meth_ok (c.t.d.fact 75 (f := .meth "Host" "begin") rfl)
  have XHost_begin := Mx.mk (base := base) (P := P) _ _ (ok_Host_begin DHost_begin T) mHost_begin bHost_begin
  obtain ⟨fdHost_leave, DHost_leave⟩ := c.t.d.def_ 13 (d := hdHost_leave) rfl
  have bHost_leave : Binds K fdHost_leave ["self"] [] := FunD.bindsN (ps := ["self"]) DHost_leave fun _ _ _ _ _ _ us hl => match us, hl with | [_], _ => rfl
  have mHost_leave : Meth K T.aHost "leave" (He.ma K (He.ga K "Host") "leave") := by rw [eHost]; exact He.meth_ok (c.t.d.fact 76 (f := .meth "Host" "leave") rfl)
  have XHost_leave := Mx.mk (base := base) (P := P) _ _ (ok_Host_leave DHost_leave T) mHost_leave bHost_leave
  obtain ⟨fdHost_resume, DHost_resume⟩ := c.t.d.def_ 14 (d := hdHost_resume) rfl
  have bHost_resume : Binds K fdHost_resume ["self"] [] := FunD.bindsN (ps := ["self"]) DHost_resume fun _ _ _ _ _ _ us hl => match us, hl with | [_], _ => rfl
  have mHost_resume : Meth K T.aHost "resume" (He.ma K (He.ga K "Host") "resume") := by rw [eHost]; exact He.meth_ok (c.t.d.fact 77 (f := .meth "Host" "resume") rfl)
  have XHost_resume := Mx.mk (base := base) (P := P) _ _ (ok_Host_resume DHost_resume T) mHost_resume bHost_resume
  obtain ⟨fdHost_is_whole, DHost_is_whole⟩ := c.t.d.def_ 15 (d := hdHost_is_whole) rfl
  have bHost_is_whole : Binds K fdHost_is_whole ["self"] [] := FunD.bindsN (ps := ["self"]) DHost_is_whole fun _ _ _ _ _ _ us hl => match us, hl with | [_], _ => rfl
  have mHost_is_whole : Meth K T.aHost "is_whole" (He.ma K (He.ga K "Host") "is_whole") := by rw [eHost]; exact He.meth_ok (c.t.d.fact 78 (f := .meth "Host" "is_whole") rfl)
  have XHost_is_whole := Mx.mk (base := base) (P := P) _ _ (ok_Host_is_whole DHost_is_whole T) mHost_is_whole bHost_is_whole
  obtain ⟨fdHost_freeze, DHost_freeze⟩ := c.t.d.def_ 16 (d := hdHost_freeze) rfl
  have bHost_freeze : Binds K fdHost_freeze ["self", "goal", "pieces"] [] := FunD.bindsN (ps := ["self", "goal", "pieces"]) DHost_freeze fun _ _ _ _ _ _ us hl => match us, hl with | [_, _, _], _ => rfl
  have mHost_freeze : Meth K T.aHost "freeze" (He.ma K (He.ga K "Host") "freeze") := by rw [eHost]; exact He.meth_ok (c.t.d.fact 79 (f := .meth "Host" "freeze") rfl)
  have XHost_freeze := Mx.mk (base := base) (P := P) _ _ (ok_Host_freeze DHost_freeze T Xis_number Xare_pieces) mHost_freeze bHost_freeze
  obtain ⟨fdHost_take_answer, DHost_take_answer⟩ := c.t.d.def_ 17 (d := hdHost_take_answer) rfl
  have bHost_take_answer : Binds K fdHost_take_answer ["self", "word"] [] := FunD.bindsN (ps := ["self", "word"]) DHost_take_answer fun _ _ _ _ _ _ us hl => match us, hl with | [_, _], _ => rfl
  have mHost_take_answer : Meth K T.aHost "take_answer" (He.ma K (He.ga K "Host") "take_answer") := by rw [eHost]; exact He.meth_ok (c.t.d.fact 80 (f := .meth "Host" "take_answer") rfl)
  have XHost_take_answer := Mx.mk (base := base) (P := P) _ _ (ok_Host_take_answer DHost_take_answer T XHost_leave) mHost_take_answer bHost_take_answer
  obtain ⟨fdis_relay_message, Dis_relay_message⟩ := c.t.d.def_ 18 (d := hdis_relay_message) rfl
  have bis_relay_message : Binds K fdis_relay_message ["thing"] [] := FunD.bindsN (ps := ["thing"]) Dis_relay_message fun _ _ _ _ _ _ us hl => match us, hl with | [_], _ => rfl
  have gis_relay_message : mg "is_relay_message" = some (.ref (He.ga K "is_relay_message")) := He.glo_ok X G (c.t.d.fact 81 (f := .glo "is_relay_message") rfl)
  have Xis_relay_message := Fx.mk (base := base) (P := P) _ _ (ok_is_relay_message Dis_relay_message T Xis_number) gis_relay_message Dis_relay_message.kp bis_relay_message
  obtain ⟨fdHost_take_piece, DHost_take_piece⟩ := c.t.d.def_ 19 (d := hdHost_take_piece) rfl
  have bHost_take_piece : Binds K fdHost_take_piece ["self", "sender", "message"] [] := FunD.bindsN (ps := ["self", "sender", "message"]) DHost_take_piece fun _ _ _ _ _ _ us hl => match us, hl with | [_, _, _], _ => rfl
  have mHost_take_piece : Meth K T.aHost "take_piece" (He.ma K (He.ga K "Host") "take_piece") := by rw [eHost]; exact He.meth_ok (c.t.d.fact 82 (f := .meth "Host" "take_piece") rfl)
  have XHost_take_piece := Mx.mk (base := base) (P := P) _ _ (ok_Host_take_piece DHost_take_piece T XHost_leave) mHost_take_piece bHost_take_piece
  obtain ⟨fdHost_take_go, DHost_take_go⟩ := c.t.d.def_ 20 (d := hdHost_take_go) rfl
  have bHost_take_go : Binds K fdHost_take_go ["self", "sender", "message"] [] := FunD.bindsN (ps := ["self", "sender", "message"]) DHost_take_go fun _ _ _ _ _ _ us hl => match us, hl with | [_, _, _], _ => rfl
  have mHost_take_go : Meth K T.aHost "take_go" (He.ma K (He.ga K "Host") "take_go") := by rw [eHost]; exact He.meth_ok (c.t.d.fact 83 (f := .meth "Host" "take_go") rfl)
  have XHost_take_go := Mx.mk (base := base) (P := P) _ _ (ok_Host_take_go DHost_take_go T XHost_is_whole) mHost_take_go bHost_take_go
  obtain ⟨fdHost_receive, DHost_receive⟩ := c.t.d.def_ 21 (d := hdHost_receive) rfl
  have bHost_receive : Binds K fdHost_receive ["self", "sender", "message"] [] := FunD.bindsN (ps := ["self", "sender", "message"]) DHost_receive fun _ _ _ _ _ _ us hl => match us, hl with | [_, _, _], _ => rfl
  have mHost_receive : Meth K T.aHost "receive" (He.ma K (He.ga K "Host") "receive") := by rw [eHost]; exact He.meth_ok (c.t.d.fact 84 (f := .meth "Host" "receive") rfl)
  have XHost_receive := Mx.mk (base := base) (P := P) _ _ (ok_Host_receive DHost_receive T Xas_tuples Xis_number Xis_relay_message XHost_take_piece XHost_take_go XHost_take_answer) mHost_receive bHost_receive
  obtain ⟨fdHost_messages, DHost_messages⟩ := c.t.d.def_ 22 (d := hdHost_messages) rfl
  have bHost_messages : Binds K fdHost_messages ["self"] [] := FunD.bindsN (ps := ["self"]) DHost_messages fun _ _ _ _ _ _ us hl => match us, hl with | [_], _ => rfl
  have mHost_messages : Meth K T.aHost "messages" (He.ma K (He.ga K "Host") "messages") := by rw [eHost]; exact He.meth_ok (c.t.d.fact 85 (f := .meth "Host" "messages") rfl)
  have XHost_messages := Mx.mk (base := base) (P := P) _ _ (ok_Host_messages DHost_messages T XHost_is_whole) mHost_messages bHost_messages
  obtain ⟨fdHost___init__, DHost___init__⟩ := c.t.d.def_ 23 (d := hdHost___init__) rfl
  have bHost___init__ : Binds K fdHost___init__ ["self", "number"] [] := FunD.bindsN (ps := ["self", "number"]) DHost___init__ fun _ _ _ _ _ _ us hl => match us, hl with | [_, _], _ => rfl
  have mkHost : Mk K T.aHost (He.ma K (He.ga K "Host") "__init__") := by rw [eHost]; exact He.mkr_ok (c.t.d.fact 86 (f := .mkr "Host") rfl)
  have XHost___init__ := Kx.mk (base := base) (P := P) _ _ (ok_Host___init__ DHost___init__ T Xis_number) T.gHost mkHost bHost___init__
  obtain ⟨fd_law_as_hop, D_law_as_hop⟩ := c.t.d.def_ 24 (d := hd_law_as_hop) rfl
  have b_law_as_hop : Binds K fd_law_as_hop ["told_so"] [] := FunD.bindsN (ps := ["told_so"]) D_law_as_hop fun _ _ _ _ _ _ us hl => match us, hl with | [_], _ => rfl
  have g_law_as_hop : mg "_law_as_hop" = some (.ref (He.ga K "_law_as_hop")) := He.glo_ok X G (c.t.d.fact 87 (f := .glo "_law_as_hop") rfl)
  have X_law_as_hop := Fx.mk (base := base) (P := P) _ _ (ok_as_hop D_law_as_hop T) g_law_as_hop D_law_as_hop.kp b_law_as_hop
  obtain ⟨fdGiver___init__, DGiver___init__⟩ := c.t.d.def_ 25 (d := hdGiver___init__) rfl
  have bGiver___init__ : Binds K fdGiver___init__ ["self"] [] := FunD.bindsN (ps := ["self"]) DGiver___init__ fun _ _ _ _ _ _ us hl => match us, hl with | [_], _ => rfl
  have mkGiver : Mk K T.aGiver (He.ma K (He.ga K "Giver") "__init__") := by rw [eGiver]; exact He.mkr_ok (c.t.d.fact 88 (f := .mkr "Giver") rfl)
  have XGiver___init__ := Kx.mk (base := base) (P := P) _ _ (ok_Giver___init__ DGiver___init__ T) T.gGiver mkGiver bGiver___init__
  obtain ⟨fdGiver_phase, DGiver_phase⟩ := c.t.d.def_ 26 (d := hdGiver_phase) rfl
  have bGiver_phase : Binds K fdGiver_phase ["self"] [] := FunD.bindsN (ps := ["self"]) DGiver_phase fun _ _ _ _ _ _ us hl => match us, hl with | [_], _ => rfl
  have mGiver_phase : Meth K T.aGiver "phase" (He.ma K (He.ga K "Giver") "phase") := by rw [eGiver]; exact He.meth_ok (c.t.d.fact 89 (f := .meth "Giver" "phase") rfl)
  have XGiver_phase := Mx.mk (base := base) (P := P) _ _ (ok_Giver_phase DGiver_phase T) mGiver_phase bGiver_phase
  obtain ⟨fdGiver_freeze, DGiver_freeze⟩ := c.t.d.def_ 27 (d := hdGiver_freeze) rfl
  have bGiver_freeze : Binds K fdGiver_freeze ["self", "pieces"] [] := FunD.bindsN (ps := ["self", "pieces"]) DGiver_freeze fun _ _ _ _ _ _ us hl => match us, hl with | [_, _], _ => rfl
  have mGiver_freeze : Meth K T.aGiver "freeze" (He.ma K (He.ga K "Giver") "freeze") := by rw [eGiver]; exact He.meth_ok (c.t.d.fact 90 (f := .meth "Giver" "freeze") rfl)
  have XGiver_freeze := Mx.mk (base := base) (P := P) _ _ (ok_Giver_freeze DGiver_freeze T) mGiver_freeze bGiver_freeze
  obtain ⟨fdGiver_resume, DGiver_resume⟩ := c.t.d.def_ 28 (d := hdGiver_resume) rfl
  have bGiver_resume : Binds K fdGiver_resume ["self"] [] := FunD.bindsN (ps := ["self"]) DGiver_resume fun _ _ _ _ _ _ us hl => match us, hl with | [_], _ => rfl
  have mGiver_resume : Meth K T.aGiver "resume" (He.ma K (He.ga K "Giver") "resume") := by rw [eGiver]; exact He.meth_ok (c.t.d.fact 91 (f := .meth "Giver" "resume") rfl)
  have XGiver_resume := Mx.mk (base := base) (P := P) _ _ (ok_Giver_resume DGiver_resume T) mGiver_resume bGiver_resume
  obtain ⟨fdGiver_receive, DGiver_receive⟩ := c.t.d.def_ 29 (d := hdGiver_receive) rfl
  have bGiver_receive : Binds K fdGiver_receive ["self", "message"] [] := FunD.bindsN (ps := ["self", "message"]) DGiver_receive fun _ _ _ _ _ _ us hl => match us, hl with | [_, _], _ => rfl
  have mGiver_receive : Meth K T.aGiver "receive" (He.ma K (He.ga K "Giver") "receive") := by rw [eGiver]; exact He.meth_ok (c.t.d.fact 92 (f := .meth "Giver" "receive") rfl)
  have XGiver_receive := Mx.mk (base := base) (P := P) _ _ (ok_Giver_receive DGiver_receive T) mGiver_receive bGiver_receive
  obtain ⟨fdGiver_messages, DGiver_messages⟩ := c.t.d.def_ 30 (d := hdGiver_messages) rfl
  have bGiver_messages : Binds K fdGiver_messages ["self"] [] := FunD.bindsN (ps := ["self"]) DGiver_messages fun _ _ _ _ _ _ us hl => match us, hl with | [_], _ => rfl
  have mGiver_messages : Meth K T.aGiver "messages" (He.ma K (He.ga K "Giver") "messages") := by rw [eGiver]; exact He.meth_ok (c.t.d.fact 93 (f := .meth "Giver" "messages") rfl)
  have XGiver_messages := Mx.mk (base := base) (P := P) _ _ (ok_Giver_messages DGiver_messages T) mGiver_messages bGiver_messages
  obtain ⟨fdTaker___init__, DTaker___init__⟩ := c.t.d.def_ 31 (d := hdTaker___init__) rfl
  have bTaker___init__ : Binds K fdTaker___init__ ["self"] [] := FunD.bindsN (ps := ["self"]) DTaker___init__ fun _ _ _ _ _ _ us hl => match us, hl with | [_], _ => rfl
  have mkTaker : Mk K T.aTaker (He.ma K (He.ga K "Taker") "__init__") := by rw [eTaker]; exact He.mkr_ok (c.t.d.fact 94 (f := .mkr "Taker") rfl)
  have XTaker___init__ := Kx.mk (base := base) (P := P) _ _ (ok_Taker___init__ DTaker___init__ T) T.gTaker mkTaker bTaker___init__
  obtain ⟨fdTaker_is_whole, DTaker_is_whole⟩ := c.t.d.def_ 32 (d := hdTaker_is_whole) rfl
  have bTaker_is_whole : Binds K fdTaker_is_whole ["self"] [] := FunD.bindsN (ps := ["self"]) DTaker_is_whole fun _ _ _ _ _ _ us hl => match us, hl with | [_], _ => rfl
  have mTaker_is_whole : Meth K T.aTaker "is_whole" (He.ma K (He.ga K "Taker") "is_whole") := by rw [eTaker]; exact He.meth_ok (c.t.d.fact 95 (f := .meth "Taker" "is_whole") rfl)
  have XTaker_is_whole := Mx.mk (base := base) (P := P) _ _ (ok_Taker_is_whole DTaker_is_whole T) mTaker_is_whole bTaker_is_whole
  obtain ⟨fdTaker_keep, DTaker_keep⟩ := c.t.d.def_ 33 (d := hdTaker_keep) rfl
  have bTaker_keep : Binds K fdTaker_keep ["self", "number", "index", "many", "text"] [] := FunD.bindsN (ps := ["self", "number", "index", "many", "text"]) DTaker_keep fun _ _ _ _ _ _ us hl => match us, hl with | [_, _, _, _, _], _ => rfl
  have mTaker_keep : Meth K T.aTaker "keep" (He.ma K (He.ga K "Taker") "keep") := by rw [eTaker]; exact He.meth_ok (c.t.d.fact 96 (f := .meth "Taker" "keep") rfl)
  have XTaker_keep := Mx.mk (base := base) (P := P) _ _ (ok_Taker_keep DTaker_keep T) mTaker_keep bTaker_keep
  obtain ⟨fdTaker_receive, DTaker_receive⟩ := c.t.d.def_ 34 (d := hdTaker_receive) rfl
  have bTaker_receive : Binds K fdTaker_receive ["self", "message"] [] := FunD.bindsN (ps := ["self", "message"]) DTaker_receive fun _ _ _ _ _ _ us hl => match us, hl with | [_, _], _ => rfl
  have mTaker_receive : Meth K T.aTaker "receive" (He.ma K (He.ga K "Taker") "receive") := by rw [eTaker]; exact He.meth_ok (c.t.d.fact 97 (f := .meth "Taker" "receive") rfl)
  have XTaker_receive := Mx.mk (base := base) (P := P) _ _ (ok_Taker_receive DTaker_receive T XTaker_is_whole XTaker_keep) mTaker_receive bTaker_receive
  obtain ⟨fdTaker_messages, DTaker_messages⟩ := c.t.d.def_ 35 (d := hdTaker_messages) rfl
  have bTaker_messages : Binds K fdTaker_messages ["self"] [] := FunD.bindsN (ps := ["self"]) DTaker_messages fun _ _ _ _ _ _ us hl => match us, hl with | [_], _ => rfl
  have mTaker_messages : Meth K T.aTaker "messages" (He.ma K (He.ga K "Taker") "messages") := by rw [eTaker]; exact He.meth_ok (c.t.d.fact 98 (f := .meth "Taker" "messages") rfl)
  have XTaker_messages := Mx.mk (base := base) (P := P) _ _ (ok_Taker_messages DTaker_messages T XTaker_is_whole) mTaker_messages bTaker_messages
  obtain ⟨fdTaker_running, DTaker_running⟩ := c.t.d.def_ 36 (d := hdTaker_running) rfl
  have bTaker_running : Binds K fdTaker_running ["self"] [] := FunD.bindsN (ps := ["self"]) DTaker_running fun _ _ _ _ _ _ us hl => match us, hl with | [_], _ => rfl
  have mTaker_running : Meth K T.aTaker "running" (He.ma K (He.ga K "Taker") "running") := by rw [eTaker]; exact He.meth_ok (c.t.d.fact 99 (f := .meth "Taker" "running") rfl)
  have XTaker_running := Mx.mk (base := base) (P := P) _ _ (ok_Taker_running DTaker_running T) mTaker_running bTaker_running
  exact ok_law Dlaw T ⟨X_law_box, X_law_cells, X_law_take, X_law_same, X_law_as_hop, Xis_relay_message, Xcut, XGiver___init__, XGiver_phase, XGiver_freeze, XGiver_resume, XGiver_receive, XGiver_messages, XTaker___init__, XTaker_receive, XTaker_messages, XTaker_running, XHost___init__, XHost_phase, XHost_hop, XHost_running, XHost_begin, XHost_resume, XHost_freeze, XHost_receive, XHost_messages⟩
end Rel
open PySem PySem.W PySem.Calls PyProof.Rows
set_option maxRecDepth 100000 in
set_option maxHeartbeats 0 in
theorem PySem.Challenge.cw_treethaw_k77_across_one_hop_and_a_giver_holds : PySem.Challenge.rw_treethaw_k77_across_one_hop_and_a_giver.Holds := by
  w_on; o_law
  refine HandSHeadRun.head_any (r := OpenLaw.row PySem.Challenge.rw_treethaw_k77_across_one_hop_and_a_giver) (q := view (OpenLaw.row PySem.Challenge.rw_treethaw_k77_across_one_hop_and_a_giver).prog [38]) (H := Rel.hhk) (ob := Rel.hob) (M := 4000) (loose := Rel.hloose) (d := HandSHeadRun.topDef (OpenLaw.row PySem.Challenge.rw_treethaw_k77_across_one_hop_and_a_giver).prog 38) (kwd := []) Rel.hob_eq
    (by kernel_rfl) (fun s => by kernel_rfl) Rel.hrun (by kernel_rfl) (by kernel_rfl) (by kernel_rfl) (by rfl) (by first | assumption | decide +kernel) (by decide +kernel) ⟨rfl, rfl, rfl, rfl, rfl, by decide +kernel⟩ ?hw ?hc
  case hw => w_witness2
  case hc =>
    refine L2.walk_ofE (l := PySem.Challenge.rw_treethaw_k77_across_one_hop_and_a_giver) (n := 63) (k := 6) (x := "script") (CX := L2.CX0) rfl (by decide) (by kernel_rfl) ⟨rfl, by decide, by decide⟩ ?F (fun _ _ _ _ z => z)
    intro w mg fa h Y G hmg0
    obtain ⟨K, KX, c⟩ := Y
    have hmg : mg ("law" : PySem.Str) = some (.ref fa) := by
      have e : (HandSHeadRun.topDef (OpenLaw.row PySem.Challenge.rw_treethaw_k77_across_one_hop_and_a_giver).prog 38).name = ("law" : PySem.Str) := by kernel_rfl
      rw [← e]
      exact hmg0
    obtain ⟨fd, hb, hF⟩ := Rel.facts (P := (PySem.Challenge.rw_treethaw_k77_across_one_hop_and_a_giver).prog) (w := w) KX G hmg c
    exact ⟨K, fd, Rel.spLaw K, KX, hb, fun H a ns hl _ hS => ⟨a, ns, rfl, hS, hl, fun _ => rfl⟩, hF⟩
