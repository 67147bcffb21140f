import PyProof.Rows.All
import Wide.All
import OpenK.AllK
import Wide.FinOn
import HandS.ForMost
import HandS.ForExc
import HandS.Lambda
import HandS.TupAny
import HandS.IsInst
import HandS.Defaults
import HandS.Style
import HandS.Base
import HandS.Call
import HandS.Exc
import HandS.ExcField
import HandS.ExcSuper
import HandS.CallSlots
import KE.KSuper
import KE.KExcSuper
import HandS.Head0
import HandS.Head1
import HandS.Head2
import HandS.HeadHook1
import HandS.HeadHook2
import HandS.HeadHook3
import HandS.HeadHook4
import HandS.HeadWalk
import HandS.EndTab
import HandS.AnyAll
import HandS.GenOver
import HandS.GenList
import HandS.Dict
import HandS.TupSets
import HandS.Keys
import HandS.Deep
import HandS.TupMul
import HandS.Strs
import PySem.Challenge.RW_firesseen_k03_whole_watches
set_option Elab.async false
set_option linter.all false
set_option maxRecDepth 100000
set_option maxHeartbeats 4000000
/-! Firesseen: a logic over data, on top of the hand layer: what slots hold, what an expression is worth, what a block leaves. -/
namespace Fs
open PySem PySem.Spec L2

abbrev D := PyData

/-! ### data -/
def Sub (F F' : Hp) : Prop := ∀ a o, F a = some o → F' a = some o
theorem Sub.refl (F : Hp) : Sub F F := fun _ _ h => h
theorem Sub.trans {F F1 F2 : Hp} (a : Sub F F1) (b : Sub F1 F2) : Sub F F2 := fun x o h => b x o (a x o h)
theorem Sub.new {F : Hp} {p : Addr} {o : HO} (h : F p = none) : Sub F (upd F p o) := fun a u e => by
  rw [upd_ne (ne_of_none e h)]
  exact e
theorem rd_sub {F F' : Hp} {a : Addr} {u : HO} (s : Sub F F') (h : Rd F a u) : Rd F' a u := by
  rcases h with h | ⟨o, h⟩
  · exact .inl (s _ _ h)
  · exact .inr ⟨o, s _ _ h⟩
mutual
/-- the value v is the data d, all of it standing in F -/
inductive Dv (F : Hp) : V → D → Prop
  | non : Dv F .non .none
  | bl (b : Bool) : Dv F (.bl b) (.bool b)
  | int (i : Int) : Dv F (.int i) (.int i)
  | str (x : Str) : Dv F (.str x) (.str x)
  | lst {a : Addr} {xs : List V} {ds : List D} : F a = some (.lst xs) → DvAll F xs ds → Dv F (.ref a) (.list ds)
  | tup {a : Addr} {xs : List V} {ds : List D} : Rd F a (.tup xs) → DvAll F xs ds → Dv F (.ref a) (.tuple ds)
inductive DvAll (F : Hp) : List V → List D → Prop
  | nil : DvAll F [] []
  | cons {v : V} {vs : List V} {d : D} {ds : List D} : Dv F v d → DvAll F vs ds → DvAll F (v :: vs) (d :: ds)
end
mutual
theorem dv_sub {F F' : Hp} (s : Sub F F') : ∀ {v : V} {d : D}, Dv F v d → Dv F' v d
  | _, _, .non => .non
  | _, _, .bl b => .bl b
  | _, _, .int i => .int i
  | _, _, .str x => .str x
  | _, _, .lst h k => .lst (s _ _ h) (dvAll_sub s k)
  | _, _, .tup h k => .tup (rd_sub s h) (dvAll_sub s k)
theorem dvAll_sub {F F' : Hp} (s : Sub F F') : ∀ {vs : List V} {ds : List D}, DvAll F vs ds → DvAll F' vs ds
  | _, _, .nil => .nil
  | _, _, .cons h k => .cons (dv_sub s h) (dvAll_sub s k)
end
mutual
theorem dv_dp {K : PySem.W.Frag} {F H : Hp} (s : Sub F H) : ∀ {v : V} {d : D}, Dv F v d → Dp K H v d
  | _, _, .non => .non
  | _, _, .bl b => .bl b
  | _, _, .int i => .int i
  | _, _, .str x => .str x
  | _, _, .lst h k => .lst (SqL.of (s _ _ h)) (dvAll_dp s k)
  | _, _, .tup h k => .tup (.inl (rd_sub s h)) (dvAll_dp s k)
theorem dvAll_dp {K : PySem.W.Frag} {F H : Hp} (s : Sub F H) : ∀ {vs : List V} {ds : List D}, DvAll F vs ds → DpAll K H vs ds
  | _, _, .nil => .nil
  | _, _, .cons h k => .cons (dv_dp s h) (dvAll_dp s k)
end
theorem dvAll_len {F : Hp} : ∀ {vs : List V} {ds : List D}, DvAll F vs ds → vs.length = ds.length
  | _, _, .nil => rfl
  | _, _, .cons _ k => by rw [List.length_cons, List.length_cons, dvAll_len k]
theorem dvAll_get {F : Hp} : ∀ {vs : List V} {ds : List D} {i : Nat} {d : D}, DvAll F vs ds → ds[i]? = some d → ∃ v, vs[i]? = some v ∧ Dv F v d
  | _, _, _, _, .nil, e => by simp at e
  | _, _, 0, _, .cons h _, e => by
    have e' := Option.some.inj e
    subst e'
    exact ⟨_, rfl, h⟩
  | _, _, i + 1, d, .cons _ k, e => dvAll_get (i := i) k e
theorem dvAll_getV {F : Hp} : ∀ {vs : List V} {ds : List D} {i : Nat} {v : V}, DvAll F vs ds → vs[i]? = some v → ∃ d, ds[i]? = some d ∧ Dv F v d
  | _, _, _, _, .nil, e => by simp at e
  | _, _, 0, _, .cons h _, e => by
    have e' := Option.some.inj e
    subst e'
    exact ⟨_, rfl, h⟩
  | _, _, i + 1, v, .cons _ k, e => dvAll_getV (i := i) k e
theorem dvAll_app {F : Hp} : ∀ {vs ws : List V} {ds es : List D}, DvAll F vs ds → DvAll F ws es → DvAll F (vs ++ ws) (ds ++ es)
  | _, _, _, _, .nil, k => k
  | _, _, _, _, .cons h k, k2 => .cons h (dvAll_app k k2)
theorem dvAll_set {F : Hp} {v : V} {d : D} (h : Dv F v d) : ∀ {vs : List V} {ds : List D} (i : Nat), DvAll F vs ds → DvAll F (vs.set i v) (ds.set i d)
  | _, _, _, .nil => .nil
  | _, _, 0, .cons _ k => .cons h k
  | _, _, i + 1, .cons a k => .cons a (dvAll_set h i k)
theorem dvAll_take {F : Hp} : ∀ {vs : List V} {ds : List D} (n : Nat), DvAll F vs ds → DvAll F (vs.take n) (ds.take n)
  | _, _, 0, _ => .nil
  | _, _, _ + 1, .nil => .nil
  | _, _, n + 1, .cons a k => .cons a (dvAll_take n k)
theorem dvAll_drop {F : Hp} : ∀ {vs : List V} {ds : List D} (n : Nat), DvAll F vs ds → DvAll F (vs.drop n) (ds.drop n)
  | _, _, 0, k => k
  | _, _, _ + 1, .nil => .nil
  | _, _, n + 1, .cons _ k => dvAll_drop n k
theorem dvAll_rev {F : Hp} : ∀ {vs : List V} {ds : List D}, DvAll F vs ds → DvAll F vs.reverse ds.reverse
  | _, _, .nil => .nil
  | _, _, .cons a k => by
    rw [List.reverse_cons, List.reverse_cons]
    exact dvAll_app (dvAll_rev k) (.cons a .nil)
/-- flat data are told by their value -/
theorem dv_int {F : Hp} {v : V} {i : Int} (h : Dv F v (.int i)) : v = .int i := by cases h; rfl
theorem dv_bl {F : Hp} {v : V} {b : Bool} (h : Dv F v (.bool b)) : v = .bl b := by cases h; rfl
theorem dv_str {F : Hp} {v : V} {x : Str} (h : Dv F v (.str x)) : v = .str x := by cases h; rfl
theorem dv_non {F : Hp} {v : V} (h : Dv F v .none) : v = .non := by cases h; rfl
theorem dv_tup {F : Hp} {v : V} {ds : List D} (h : Dv F v (.tuple ds)) : ∃ a vs, v = .ref a ∧ Rd F a (.tup vs) ∧ DvAll F vs ds := by
  cases h with
  | tup h k => exact ⟨_, _, rfl, h, k⟩
theorem dv_lst {F : Hp} {v : V} {ds : List D} (h : Dv F v (.list ds)) : ∃ a vs, v = .ref a ∧ F a = some (.lst vs) ∧ DvAll F vs ds := by
  cases h with
  | lst h k => exact ⟨_, _, rfl, h, k⟩
theorem dvAll_ints {F : Hp} : ∀ {vs : List V} {ns : List Int}, DvAll F vs (ns.map .int) → vs = ns.map V.int
  | _, [], .nil => rfl
  | _, n :: r, .cons h k => by
    rw [dv_int h, dvAll_ints k]
    rfl
theorem dvAll_bools {F : Hp} : ∀ {vs : List V} {bs : List Bool}, DvAll F vs (bs.map .bool) → vs = bs.map V.bl
  | _, [], .nil => rfl
  | _, n :: r, .cons h k => by
    rw [dv_bl h, dvAll_bools k]
    rfl
theorem dvAll_ofInts {F : Hp} : ∀ (ns : List Int), DvAll F (ns.map V.int) (ns.map .int)
  | [] => .nil
  | n :: r => .cons (.int n) (dvAll_ofInts r)
theorem dvAll_ofBools {F : Hp} : ∀ (bs : List Bool), DvAll F (bs.map V.bl) (bs.map .bool)
  | [] => .nil
  | n :: r => .cons (.bl n) (dvAll_ofBools r)

/-! ### tables of code objects -/
/-- P's kind: none: of generator expressions; some q: all its code objects are called q -/
def TbAt (H : Hp) (p : Addr × Option Str) : Prop :=
  match p.2 with
  | none => ∃ ps : Array Value, H p.1 = some (.tbl ps) ∧ TriplesOk ps.toList
  | some q => LamX.TabS H p.1 q
def Tb (T : List (Addr × Option Str)) (H : Hp) : Prop := ∀ p ∈ T, TbAt H p
theorem TbAt.tbl {H : Hp} {p : Addr × Option Str} (h : TbAt H p) : ∃ ps, H p.1 = some (.tbl ps) := by
  unfold TbAt at h
  split at h
  · exact ⟨_, h.choose_spec.1⟩
  · exact ⟨_, h.choose_spec.1⟩
theorem TbAt.ext {H H' : Hp} {p : Addr × Option Str} (h : TbAt H p) (hp : H' p.1 = H p.1) (e : LamX.ExtN H H') : TbAt H' p := by
  unfold TbAt at h ⊢
  split at h
  · obtain ⟨ps, a, b⟩ := h
    exact ⟨ps, by rw [hp]; exact a, b⟩
  · obtain ⟨ps, a, b, c⟩ := h
    refine ⟨ps, by rw [hp]; exact a, b, fun pos cv hc => ?_⟩
    obtain ⟨d, e1, e2⟩ := c pos cv hc
    exact ⟨d, e1, e _ _ e2 LamX.codeO_ne⟩

/-! ### steps: F is what stands for ever (the frozen part of H) -/
def Fz (F H : Hp) : Prop := ∀ a o, F a = some o → H a = some o ∧ ∀ ps, o ≠ .tbl ps
structure Stp (T : List (Addr × Option Str)) (Mx : List Addr) (F H F' H' : Hp) : Prop where
  sub : Sub F F'
  fz : Fz F' H'
  ext : ∀ a o, H a = some o → a ∉ Mx → (∀ ps, o ≠ .tbl ps) → H' a = some o
  dom : ∀ a, H' a = none → H a = none
  new : ∀ a o, F' a = some o → F a = some o ∨ H a = none
  tb : Tb T H'
theorem Stp.refl {T : List (Addr × Option Str)} {Mx : List Addr} {F H : Hp} (hF : Fz F H) (hT : Tb T H) : Stp T Mx F H F H :=
  ⟨Sub.refl F, hF, fun _ _ h _ _ => h, fun _ h => h, fun _ _ h => .inl h, hT⟩
theorem Stp.trans {T : List (Addr × Option Str)} {Mx : List Addr} {F H F1 H1 F2 H2 : Hp} (a : Stp T Mx F H F1 H1) (b : Stp T Mx F1 H1 F2 H2) : Stp T Mx F H F2 H2 :=
  ⟨a.sub.trans b.sub, b.fz, fun x o h m n => b.ext x o (a.ext x o h m n) m n, fun x h => a.dom x (b.dom x h), fun x o h => by
    rcases b.new x o h with h | h
    · exact a.new x o h
    · exact .inr (a.dom x h), b.tb⟩
theorem Stp.wide {T : List (Addr × Option Str)} {Mx : List Addr} {F H F' H' : Hp} (a : Stp T [] F H F' H') : Stp T Mx F H F' H' :=
  ⟨a.sub, a.fz, fun x o h _ n => a.ext x o h (by simp) n, a.dom, a.new, a.tb⟩
theorem Stp.dv {T : List (Addr × Option Str)} {Mx : List Addr} {F H F' H' : Hp} {v : V} {d : D} (s : Stp T Mx F H F' H') (h : Dv F v d) : Dv F' v d := dv_sub s.sub h
theorem Stp.dvs {T : List (Addr × Option Str)} {Mx : List Addr} {F H F' H' : Hp} {vs : List V} {ds : List D} (s : Stp T Mx F H F' H') (h : DvAll F vs ds) : DvAll F' vs ds := dvAll_sub s.sub h
/-- an address that F does not know, H does: never frozen by a step -/
theorem Stp.free {T : List (Addr × Option Str)} {Mx : List Addr} {F H F' H' : Hp} {p : Addr} {o : HO} (s : Stp T Mx F H F' H') (hF : F p = none) (hH : H p = some o) : F' p = none := by
  cases e : F' p with
  | none => rfl
  | some u =>
    rcases s.new p u e with z | z
    · rw [hF] at z; cases z
    · rw [hH] at z; cases z
theorem fz_sub {F H : Hp} (h : Fz F H) : Sub F H := fun a o e => (h a o e).1
theorem ne_tbl_of {H : Hp} {T : List (Addr × Option Str)} (hT : Tb T H) {p : Addr} (hp : ∀ ps, H p ≠ some (.tbl ps)) : ∀ q ∈ T, q.1 ≠ p := fun q hq e => by
  obtain ⟨ps, h⟩ := (hT q hq).tbl
  rw [e] at h
  exact hp ps h
/-- nothing but p's object changes, which is no table -/
theorem tb_upd {T : List (Addr × Option Str)} {H : Hp} {p : Addr} {o : HO} (hT : Tb T H) (hp : ∀ ps, H p ≠ some (.tbl ps)) (hx : H p = none ∨ ∀ c q, H p ≠ some (LamX.CodeO c q)) : Tb T (upd H p o) := fun q hq => by
  have hne := ne_tbl_of hT hp q hq
  have h := hT q hq
  have same : ∀ a, a ≠ p → upd H p o a = H a := fun a h => upd_ne h
  unfold TbAt at h ⊢
  split at h
  · obtain ⟨ps, a, b⟩ := h
    exact ⟨ps, by rw [same _ hne]; exact a, b⟩
  · obtain ⟨ps, a, b, c⟩ := h
    refine ⟨ps, by rw [same _ hne]; exact a, b, fun pos cv hc => ?_⟩
    obtain ⟨d, e1, e2⟩ := c pos cv hc
    refine ⟨d, e1, ?_⟩
    rw [same d]
    · exact e2
    · rintro rfl
      rcases hx with z | z
      · rw [z] at e2; cases e2
      · exact z _ _ e2
theorem fz_upd {F H : Hp} {p : Addr} {o : HO} (h : Fz F H) (hp : F p = none) : Fz F (upd H p o) := fun a u e => by
  rw [upd_ne (ne_of_none e hp)]
  exact h a u e
/-- a new object that stays as it is -/
theorem Stp.newF {T : List (Addr × Option Str)} {Mx : List Addr} {F H : Hp} {p : Addr} {o : HO} (hF : Fz F H) (hT : Tb T H) (hp : H p = none) (ho : ∀ ps, o ≠ .tbl ps) : Stp T Mx F H (upd F p o) (upd H p o) := by
  have hFp : F p = none := by
    cases e : F p with
    | none => rfl
    | some u => rw [(hF p u e).1] at hp; cases hp
  refine ⟨Sub.new hFp, fun a u e => ?_, fun a u e _ _ => ?_, fun a e => ?_, fun a u e => ?_, tb_upd hT (fun ps z => by rw [hp] at z; cases z) (.inl hp)⟩
  · by_cases h : a = p
    · subst h
      rw [upd_same] at e ⊢
      cases e
      exact ⟨rfl, ho⟩
    · rw [upd_ne h] at e ⊢
      exact hF a u e
  · rw [upd_ne (ne_of_none e hp)]
    exact e
  · by_cases h : a = p
    · rw [h, upd_same] at e; cases e
    · rw [upd_ne h] at e; exact e
  · by_cases h : a = p
    · exact .inr (by rw [h]; exact hp)
    · rw [upd_ne h] at e; exact .inl e
/-- a new object that may still change -/
theorem Stp.newO {T : List (Addr × Option Str)} {Mx : List Addr} {F H : Hp} {p : Addr} {o : HO} (hF : Fz F H) (hT : Tb T H) (hp : H p = none) : Stp T Mx F H F (upd H p o) := by
  have hFp : F p = none := by
    cases e : F p with
    | none => rfl
    | some u => rw [(hF p u e).1] at hp; cases hp
  refine ⟨Sub.refl F, fz_upd hF hFp, fun a u e _ _ => ?_, fun a e => ?_, fun a u e => .inl e, tb_upd hT (fun ps z => by rw [hp] at z; cases z) (.inl hp)⟩
  · rw [upd_ne (ne_of_none e hp)]
    exact e
  · by_cases h : a = p
    · rw [h, upd_same] at e; cases e
    · rw [upd_ne h] at e; exact e

/-! ### slots -/
/-- what a slot holds: nothing that is told; data; just this value; a list, a dict of the def's own (they may change, nobody else knows them) -/
inductive Sd where
  | un
  | d (x : D)
  | v (x : V)
  | l (ds : List D)
  | k (kvs : List (Int × D))
  | t (kvs : List (List Int × D))
  | m (a : Addr) (ds : List D)
  | z (ds : List D)
  | mt (a : Addr) (kvs : List (List Int × D))
/-- a tuple that was made here: it has no dict -/
def DvZ (F : Hp) (v : V) (ds : List D) : Prop := ∃ a o vs, v = .ref a ∧ F a = some (.frz o (.tup vs)) ∧ o.cls = .type "tuple" ∧ o.dict = none ∧ DvAll F vs ds
theorem DvZ.dv {F : Hp} {v : V} {ds : List D} (h : DvZ F v ds) : Dv F v (.tuple ds) := by
  obtain ⟨a, o, vs, rfl, e, _, _, k⟩ := h
  exact .tup (.inr ⟨o, e⟩) k
theorem DvZ.sub {F F' : Hp} {v : V} {ds : List D} (s : Sub F F') (h : DvZ F v ds) : DvZ F' v ds := by
  obtain ⟨a, o, vs, e0, e, e1, e2, k⟩ := h
  exact ⟨a, o, vs, e0, s _ _ e, e1, e2, dvAll_sub s k⟩
def Sd.own : Sd → Bool
  | .l _ => true
  | .k _ => true
  | .t _ => true
  | .m _ _ => true
  | .mt _ _ => true
  | _ => false
def KOk (F : Hp) : List (Key × V) → List (Int × D) → Prop := Paired fun a b => a.1 = Sum.inl b.1 ∧ Dv F a.2 b.2
def TOk (F : Hp) : List (List Key × V) → List (List Int × D) → Prop := Paired fun a b => a.1 = b.1.map Sum.inl ∧ Dv F a.2 b.2
/-- the object at p -/
def OwnAt (F H : Hp) (p : Addr) : Sd → Prop
  | .l ds => ∃ vs, H p = some (.lst vs) ∧ DvAll F vs ds
  | .k kvs => ∃ kv, H p = some (.dK kv) ∧ KOk F kv kvs
  | .t kvs => ∃ kv, H p = some (.dT kv) ∧ TOk F kv kvs
  | .m a ds => p = a ∧ ∃ vs, H p = some (.lst vs) ∧ DvAll F vs ds
  | .mt a kvs => p = a ∧ ∃ kv, H p = some (.dT kv) ∧ TOk F kv kvs
  | _ => False
def SlotOk (H0 : Hp) (Mx : List Addr) (F H : Hp) (s : Option (Option V)) : Sd → Prop
  | .un => True
  | .d x => ∃ v, s = some (some v) ∧ Dv F v x
  | .v x => s = some (some x)
  | .z ds => ∃ v, s = some (some v) ∧ DvZ F v ds
  | o => ∃ p, s = some (some (.ref p)) ∧ F p = none ∧ (H0 p = none ∨ p ∈ Mx) ∧ OwnAt F H p o
structure Sl (H0 : Hp) (Mx : List Addr) (F H : Hp) (σ : L2.St) (δ : List Sd) : Prop where
  len : σ.length = δ.length
  ok : ∀ (i : Nat) (x : Sd), δ[i]? = some x → SlotOk H0 Mx F H σ[i]? x
  sep : ∀ (i j : Nat) (x y : Sd) (p : Addr), i ≠ j → δ[i]? = some x → δ[j]? = some y → x.own = true → y.own = true → σ[i]? = some (some (.ref p)) → σ[j]? ≠ some (some (.ref p))
theorem paired_map {α β : Type} {P Q : α → β → Prop} (h : ∀ a b, P a b → Q a b) : ∀ {l : List α} {m : List β}, Paired P l m → Paired Q l m
  | _, _, .nil => .nil
  | _, _, .cons a r => .cons (h _ _ a) (paired_map h r)
theorem OwnAt.step {T : List (Addr × Option Str)} {Mx : List Addr} {F H F' H' : Hp} {p : Addr} {o : Sd} (s : Stp T Mx F H F' H') (hp : p ∉ Mx) (h : OwnAt F H p o) : OwnAt F' H' p o := by
  cases o with
  | un => exact h
  | d _ => exact h
  | v _ => exact h
  | z _ => exact h
  | l ds =>
    obtain ⟨vs, a, b⟩ := h
    exact ⟨vs, s.ext _ _ a hp (fun _ z => by cases z), s.dvs b⟩
  | k kvs =>
    obtain ⟨kv, a, b⟩ := h
    exact ⟨kv, s.ext _ _ a hp (fun _ z => by cases z), paired_map (fun _ _ z => ⟨z.1, s.dv z.2⟩) b⟩
  | t kvs =>
    obtain ⟨kv, a, b⟩ := h
    exact ⟨kv, s.ext _ _ a hp (fun _ z => by cases z), paired_map (fun _ _ z => ⟨z.1, s.dv z.2⟩) b⟩
  | m a0 ds =>
    obtain ⟨e0, vs, a, b⟩ := h
    exact ⟨e0, vs, s.ext _ _ a hp (fun _ z => by cases z), s.dvs b⟩
  | mt a0 ds =>
    obtain ⟨e0, vs, a, b⟩ := h
    exact ⟨e0, vs, s.ext _ _ a hp (fun _ z => by cases z), paired_map (fun _ _ z => ⟨z.1, s.dv z.2⟩) b⟩
theorem OwnAt.there {F H : Hp} {p : Addr} {o : Sd} (h : OwnAt F H p o) : ∃ u, H p = some u := by
  cases o with
  | un => exact h.elim
  | d _ => exact h.elim
  | v _ => exact h.elim
  | z _ => exact h.elim
  | l ds => exact ⟨_, h.choose_spec.1⟩
  | k kvs => exact ⟨_, h.choose_spec.1⟩
  | t kvs => exact ⟨_, h.choose_spec.1⟩
  | m a0 ds => exact ⟨_, h.2.choose_spec.1⟩
  | mt a0 ds => exact ⟨_, h.2.choose_spec.1⟩
theorem SlotOk.own {H0 : Hp} {Mx : List Addr} {F H : Hp} {s : Option (Option V)} {o : Sd} (h : SlotOk H0 Mx F H s o) (ho : o.own = true) : ∃ p, s = some (some (.ref p)) ∧ F p = none ∧ (H0 p = none ∨ p ∈ Mx) ∧ OwnAt F H p o := by
  cases o with
  | l ds => exact h
  | k kvs => exact h
  | t kvs => exact h
  | m _ _ => exact h
  | mt _ _ => exact h
  | _ => cases ho
theorem SlotOk.step {T : List (Addr × Option Str)} {H0 : Hp} {Mx : List Addr} {F H F' H' : Hp} {σi : Option (Option V)} {o : Sd} (s : Stp T [] F H F' H') (h : SlotOk H0 Mx F H σi o) : SlotOk H0 Mx F' H' σi o := by
  have own : (∃ p, σi = some (some (.ref p)) ∧ F p = none ∧ (H0 p = none ∨ p ∈ Mx) ∧ OwnAt F H p o) → ∃ p, σi = some (some (.ref p)) ∧ F' p = none ∧ (H0 p = none ∨ p ∈ Mx) ∧ OwnAt F' H' p o := fun ⟨p, a, b, c, e⟩ => by
    obtain ⟨u, hu⟩ := e.there
    exact ⟨p, a, s.free b hu, c, e.step s (by simp)⟩
  cases o with
  | un => trivial
  | d x =>
    obtain ⟨v, a, b⟩ := h
    exact ⟨v, a, s.dv b⟩
  | v x => exact h
  | z ds =>
    obtain ⟨v, a, b⟩ := h
    exact ⟨v, a, b.sub s.sub⟩
  | l ds => exact own h
  | k kvs => exact own h
  | t kvs => exact own h
  | m _ _ => exact own h
  | mt _ _ => exact own h
theorem Sl.step {T : List (Addr × Option Str)} {H0 : Hp} {Mx : List Addr} {F H F' H' : Hp} {σ : L2.St} {δ : List Sd} (S : Sl H0 Mx F H σ δ) (s : Stp T [] F H F' H') : Sl H0 Mx F' H' σ δ :=
  ⟨S.len, fun i x e => (S.ok i x e).step s, S.sep⟩

/-- a def's fixed things: its tables, the objects of its callers that it may change, the entry -/
structure Cfg where
  T : List (Addr × Option Str)
  Mx : List Addr
  F0 : Hp
  H0 : Hp
  Fp : Hp
/-- within a loop: what stood frozen at its start -/
abbrev Cfg.pin (c : Cfg) (Fp : Hp) : Cfg := { c with Fp := Fp }
structure Sta (c : Cfg) (F H : Hp) (σ : L2.St) (δ : List Sd) : Prop where
  base : Stp c.T c.Mx c.F0 c.H0 F H
  pin : Sub c.Fp F
  sl : Sl c.H0 c.Mx F H σ δ
theorem Sta.step {c : Cfg} {F H F' H' : Hp} {σ : L2.St} {δ : List Sd} (S : Sta c F H σ δ) (s : Stp c.T [] F H F' H') : Sta c F' H' σ δ := ⟨S.base.trans s.wide, S.pin.trans s.sub, S.sl.step s⟩
theorem Sta.pinned {c : Cfg} {F H Fp : Hp} {σ : L2.St} {δ : List Sd} (S : Sta c F H σ δ) (h : Sub Fp F) : Sta (c.pin Fp) F H σ δ := ⟨S.base, h, S.sl⟩
theorem Sta.unpin {c : Cfg} {F H Fp : Hp} {σ : L2.St} {δ : List Sd} (S : Sta (c.pin Fp) F H σ δ) (h : Sub c.Fp Fp) : Sta c F H σ δ := ⟨S.base, h.trans S.pin, S.sl⟩
theorem Sta.fz {c : Cfg} {F H : Hp} {σ : L2.St} {δ : List Sd} (S : Sta c F H σ δ) : Fz F H := S.base.fz
theorem Sta.tb {c : Cfg} {F H : Hp} {σ : L2.St} {δ : List Sd} (S : Sta c F H σ δ) : Tb c.T H := S.base.tb
theorem Sta.refl {c : Cfg} {F H : Hp} {σ : L2.St} {δ : List Sd} (S : Sta c F H σ δ) : Stp c.T [] F H F H := Stp.refl S.fz S.tb
theorem Sta.data {c : Cfg} {F H : Hp} {σ : L2.St} {δ : List Sd} {i : Nat} {x : D} (S : Sta c F H σ δ) (h : δ[i]? = some (.d x)) : ∃ v, σ[i]? = some (some v) ∧ Dv F v x := S.sl.ok i _ h
theorem Sta.zt {c : Cfg} {F H : Hp} {σ : L2.St} {δ : List Sd} {i : Nat} {ds : List D} (S : Sta c F H σ δ) (h : δ[i]? = some (.z ds)) : ∃ v, σ[i]? = some (some v) ∧ DvZ F v ds := S.sl.ok i _ h
theorem Sta.val {c : Cfg} {F H : Hp} {σ : L2.St} {δ : List Sd} {i : Nat} {x : V} (S : Sta c F H σ δ) (h : δ[i]? = some (.v x)) : σ[i]? = some (some x) := S.sl.ok i _ h
theorem Sta.lst {c : Cfg} {F H : Hp} {σ : L2.St} {δ : List Sd} {i : Nat} {ds : List D} (S : Sta c F H σ δ) (h : δ[i]? = some (.l ds)) : ∃ p vs, σ[i]? = some (some (.ref p)) ∧ F p = none ∧ (c.H0 p = none ∨ p ∈ c.Mx) ∧ H p = some (.lst vs) ∧ DvAll F vs ds := by
  obtain ⟨p, a, b, e, vs, f, g⟩ := S.sl.ok i _ h
  exact ⟨p, vs, a, b, e, f, g⟩
theorem Sta.dk {c : Cfg} {F H : Hp} {σ : L2.St} {δ : List Sd} {i : Nat} {ds : List (Int × D)} (S : Sta c F H σ δ) (h : δ[i]? = some (.k ds)) : ∃ p vs, σ[i]? = some (some (.ref p)) ∧ F p = none ∧ (c.H0 p = none ∨ p ∈ c.Mx) ∧ H p = some (.dK vs) ∧ KOk F vs ds := by
  obtain ⟨p, a, b, e, vs, f, g⟩ := S.sl.ok i _ h
  exact ⟨p, vs, a, b, e, f, g⟩
theorem Sta.dt {c : Cfg} {F H : Hp} {σ : L2.St} {δ : List Sd} {i : Nat} {ds : List (List Int × D)} (S : Sta c F H σ δ) (h : δ[i]? = some (.t ds)) : ∃ p vs, σ[i]? = some (some (.ref p)) ∧ F p = none ∧ (c.H0 p = none ∨ p ∈ c.Mx) ∧ H p = some (.dT vs) ∧ TOk F vs ds := by
  obtain ⟨p, a, b, e, vs, f, g⟩ := S.sl.ok i _ h
  exact ⟨p, vs, a, b, e, f, g⟩
/-- a slot is set: to what owns nothing -/
theorem Sta.set {c : Cfg} {F H : Hp} {σ : L2.St} {δ : List Sd} (S : Sta c F H σ δ) (i : Nat) {s : Option V} {x : Sd} (hx : x.own = false) (h : SlotOk c.H0 c.Mx F H (some s) x) : Sta c F H (σ.set i s) (δ.set i x) := by
  refine ⟨S.base, S.pin, by rw [List.length_set, List.length_set]; exact S.sl.len, fun j y e => ?_, fun j k y z p hjk e1 e2 o1 o2 s1 s2 => ?_⟩
  · by_cases hj : i = j
    · subst hj
      have hi : i < δ.length := by
        rcases Nat.lt_or_ge i δ.length with h | h
        · exact h
        · rw [List.getElem?_eq_none (by rw [List.length_set]; exact h)] at e; cases e
      rw [List.getElem?_set_self hi] at e
      cases e
      rw [List.getElem?_set_self (by rw [S.sl.len]; exact hi)]
      exact h
    · rw [List.getElem?_set_ne hj] at e ⊢
      exact S.sl.ok j y e
  · have nj : ∀ (j : Nat) (y : Sd), (δ.set i x)[j]? = some y → y.own = true → i ≠ j := fun j y e o z => by
      subst z
      have hi : i < δ.length := by
        rcases Nat.lt_or_ge i δ.length with h | h
        · exact h
        · rw [List.getElem?_eq_none (by rw [List.length_set]; exact h)] at e; cases e
      rw [List.getElem?_set_self hi] at e
      cases e
      rw [hx] at o
      cases o
    have n1 := nj j y e1 o1
    have n2 := nj k z e2 o2
    rw [List.getElem?_set_ne n1] at e1 s1
    rw [List.getElem?_set_ne n2] at e2 s2
    exact S.sl.sep j k y z p hjk e1 e2 o1 o2 s1 s2
/-- a slot is set to a new object of the def's own -/
theorem Sta.setO {c : Cfg} {F H : Hp} {σ : L2.St} {δ : List Sd} (S : Sta c F H σ δ) (i : Nat) {p : Addr} {x : Sd} (hF : F p = none) (h0 : c.H0 p = none) (hx : x.own = true) (h : OwnAt F H p x) (hn : ∀ (j : Nat) (y : Sd), i ≠ j → δ[j]? = some y → y.own = true → σ[j]? ≠ some (some (.ref p))) :
    Sta c F H (σ.set i (some (.ref p))) (δ.set i x) := by
  have okx : SlotOk c.H0 c.Mx F H (some (some (.ref p))) x := by
    cases x with
    | l ds => exact ⟨p, rfl, hF, .inl h0, h⟩
    | k ds => exact ⟨p, rfl, hF, .inl h0, h⟩
    | t ds => exact ⟨p, rfl, hF, .inl h0, h⟩
    | m _ _ => exact ⟨p, rfl, hF, .inl h0, h⟩
    | mt _ _ => exact ⟨p, rfl, hF, .inl h0, h⟩
    | _ => cases hx
  refine ⟨S.base, S.pin, by rw [List.length_set, List.length_set]; exact S.sl.len, fun j y e => ?_, fun j k y z q hjk e1 e2 o1 o2 s1 s2 => ?_⟩
  · by_cases hj : i = j
    · subst hj
      have hi : i < δ.length := by
        rcases Nat.lt_or_ge i δ.length with h | h
        · exact h
        · rw [List.getElem?_eq_none (by rw [List.length_set]; exact h)] at e; cases e
      rw [List.getElem?_set_self hi] at e
      cases e
      rw [List.getElem?_set_self (by rw [S.sl.len]; exact hi)]
      exact okx
    · rw [List.getElem?_set_ne hj] at e ⊢
      exact S.sl.ok j y e
  · have hi : ∀ (y : Sd), (δ.set i x)[i]? = some y → i < σ.length := fun y e => by
      rcases Nat.lt_or_ge i δ.length with h | h
      · rw [S.sl.len]; exact h
      · rw [List.getElem?_eq_none (by rw [List.length_set]; exact h)] at e; cases e
    by_cases h1 : i = j
    · subst h1
      rw [List.getElem?_set_self (hi _ e1)] at s1
      cases s1
      rw [List.getElem?_set_ne hjk] at e2 s2
      exact hn k z hjk e2 o2 s2
    · rw [List.getElem?_set_ne h1] at e1 s1
      by_cases h2 : i = k
      · subst h2
        rw [List.getElem?_set_self (hi _ e2)] at s2
        cases s2
        exact hn j y h1 e1 o1 s1
      · rw [List.getElem?_set_ne h2] at e2 s2
        exact S.sl.sep j k y z q hjk e1 e2 o1 o2 s1 s2
/-- .. new in the heap: none of the others -/
theorem Sta.fresh {c : Cfg} {F H : Hp} {σ : L2.St} {δ : List Sd} (S : Sta c F H σ δ) {p : Addr} (hp : H p = none) : ∀ (j : Nat) (y : Sd), δ[j]? = some y → y.own = true → σ[j]? ≠ some (some (V.ref p)) := fun j y e o z => by
  obtain ⟨q, a, _, _, w⟩ := (S.sl.ok j y e).own o
  rw [z] at a
  cases a
  obtain ⟨u, hu⟩ := w.there
  rw [hp] at hu
  cases hu
/-- the object of slot i is written -/
theorem Sta.write {c : Cfg} {F H : Hp} {σ : L2.St} {δ : List Sd} (S : Sta c F H σ δ) {i : Nat} {p : Addr} {x x' : Sd} {o : HO} (hi : δ[i]? = some x) (hx : x.own = true) (hs : σ[i]? = some (some (.ref p))) (hx' : x'.own = true) (h : OwnAt F (upd H p o) p x')
    (ho : ∀ ps, o ≠ .tbl ps) : Sta c F (upd H p o) σ (δ.set i x') := by
  obtain ⟨q, a, hF, h0, w⟩ := (S.sl.ok i x hi).own hx
  rw [hs] at a
  cases a
  have hH : ∀ ps, H p ≠ some (.tbl ps) := fun ps z => by
    cases x with
    | l ds => obtain ⟨_, e, _⟩ := w; rw [z] at e; cases e
    | k ds => obtain ⟨_, e, _⟩ := w; rw [z] at e; cases e
    | t ds => obtain ⟨_, e, _⟩ := w; rw [z] at e; cases e
    | m _ _ => obtain ⟨_, _, e, _⟩ := w; rw [z] at e; cases e
    | mt _ _ => obtain ⟨_, _, e, _⟩ := w; rw [z] at e; cases e
    | _ => cases hx
  have hC : ∀ d q, H p ≠ some (LamX.CodeO d q) := fun d q z => by
    cases x with
    | l ds => obtain ⟨_, e, _⟩ := w; rw [z] at e; unfold LamX.CodeO at e; cases e
    | k ds => obtain ⟨_, e, _⟩ := w; rw [z] at e; unfold LamX.CodeO at e; cases e
    | t ds => obtain ⟨_, e, _⟩ := w; rw [z] at e; unfold LamX.CodeO at e; cases e
    | m _ _ => obtain ⟨_, _, e, _⟩ := w; rw [z] at e; unfold LamX.CodeO at e; cases e
    | mt _ _ => obtain ⟨_, _, e, _⟩ := w; rw [z] at e; unfold LamX.CodeO at e; cases e
    | _ => cases hx
  have hil : i < δ.length := (List.getElem?_eq_some_iff.mp hi).1
  refine ⟨⟨S.base.sub, fz_upd S.base.fz hF, fun a u e m n => ?_, fun a e => ?_, S.base.new, tb_upd S.base.tb hH (.inr hC)⟩, S.pin, by rw [List.length_set]; exact S.sl.len, fun j y e => ?_, fun j k y z q hjk e1 e2 o1 o2 s1 s2 => ?_⟩
  · have hne : a ≠ p := by
      rintro rfl
      rcases h0 with z | z
      · rw [z] at e; cases e
      · exact m z
    rw [upd_ne hne]
    exact S.base.ext a u e m n
  · by_cases h : a = p
    · subst h; rw [upd_same] at e; cases e
    · rw [upd_ne h] at e; exact S.base.dom a e
  · by_cases hj : i = j
    · subst hj
      rw [List.getElem?_set_self hil] at e
      cases e
      rw [hs]
      cases x' with
      | l ds => exact ⟨p, rfl, hF, h0, h⟩
      | k ds => exact ⟨p, rfl, hF, h0, h⟩
      | t ds => exact ⟨p, rfl, hF, h0, h⟩
      | m _ _ => exact ⟨p, rfl, hF, h0, h⟩
      | mt _ _ => exact ⟨p, rfl, hF, h0, h⟩
      | _ => cases hx'
    · rw [List.getElem?_set_ne hj] at e
      have old := S.sl.ok j y e
      cases hy : y.own with
      | false =>
        cases y with
        | un => trivial
        | d _ => exact old
        | v _ => exact old
        | z _ => exact old
        | l _ => cases hy
        | k _ => cases hy
        | t _ => cases hy
        | m _ _ => cases hy
        | mt _ _ => cases hy
      | true =>
        obtain ⟨q, a, b, c', w'⟩ := old.own hy
        have hq : q ≠ p := fun z => by
          rw [z] at a
          exact S.sl.sep i j x y p hj hi e hx hy hs a
        have w2 : OwnAt F (upd H p o) q y := by
          cases y with
          | l ds => obtain ⟨vs, e1, e2⟩ := w'; exact ⟨vs, by rw [upd_ne hq]; exact e1, e2⟩
          | k ds => obtain ⟨vs, e1, e2⟩ := w'; exact ⟨vs, by rw [upd_ne hq]; exact e1, e2⟩
          | t ds => obtain ⟨vs, e1, e2⟩ := w'; exact ⟨vs, by rw [upd_ne hq]; exact e1, e2⟩
          | m _ _ => obtain ⟨e0, vs, e1, e2⟩ := w'; exact ⟨e0, vs, by rw [upd_ne hq]; exact e1, e2⟩
          | mt _ _ => obtain ⟨e0, vs, e1, e2⟩ := w'; exact ⟨e0, vs, by rw [upd_ne hq]; exact e1, e2⟩
          | _ => cases hy
        cases y with
        | l ds => exact ⟨q, a, b, c', w2⟩
        | k ds => exact ⟨q, a, b, c', w2⟩
        | t ds => exact ⟨q, a, b, c', w2⟩
        | m _ _ => exact ⟨q, a, b, c', w2⟩
        | mt _ _ => exact ⟨q, a, b, c', w2⟩
        | _ => cases hy
  · have old : ∀ (j : Nat) (y : Sd), (δ.set i x')[j]? = some y → y.own = true → ∃ y', δ[j]? = some y' ∧ y'.own = true := fun j y e o => by
      by_cases hj : i = j
      · subst hj
        exact ⟨x, hi, hx⟩
      · rw [List.getElem?_set_ne hj] at e
        exact ⟨y, e, o⟩
    obtain ⟨y', e1', o1'⟩ := old j y e1 o1
    obtain ⟨z', e2', o2'⟩ := old k z e2 o2
    exact S.sl.sep j k y' z' q hjk e1' e2' o1' o2' s1 s2
/-- forgetting -/
def Sd.le : Sd → Sd → Prop := fun a b => b = .un ∨ a = b
theorem Sta.weak {c : Cfg} {F H : Hp} {σ : L2.St} {δ δ' : List Sd} (S : Sta c F H σ δ) (hl : δ'.length = δ.length) (h : ∀ (i : Nat) y, δ'[i]? = some y → y = .un ∨ δ[i]? = some y) : Sta c F H σ δ' := by
  refine ⟨S.base, S.pin, by rw [hl]; exact S.sl.len, fun i y e => ?_, fun i j x y p hij e1 e2 o1 o2 s1 => ?_⟩
  · rcases h i y e with z | z
    · subst z; trivial
    · exact S.sl.ok i y z
  · rcases h i x e1 with z | z
    · subst z; cases o1
    · rcases h j y e2 with w | w
      · subst w; cases o2
      · exact S.sl.sep i j x y p hij z w o1 o2 s1
end Fs

set_option Elab.async false
set_option linter.all false
set_option maxRecDepth 100000
set_option maxHeartbeats 4000000
/-! Firesseen: expressions over data. -/
namespace Fs
open PySem PySem.Spec L2

/-! ### the judgements by themselves -/
def tE (X : Cx) (e : Expr) : TE := fun σ H Q => ∀ pins s, Inv X pins σ H s → wpAny (model X.prog X.w) X.A (eval e X.env) (EP X pins σ Q) X.xe s
def tT (X : Cx) (e : Expr) : TT := fun σ H Q => ∀ pins s, Inv X pins σ H s → wpAny (model X.prog X.w) X.A (isTrue e X.env (eval e X.env)) (TP X pins σ Q) X.xe s
def tW (X : Cx) (e : Expr) : TT := fun σ H Q => ∀ (whole : Sem Value) pins s, Inv X pins σ H s → wpAny (model X.prog X.w) X.A (isTrue e X.env whole) (TP X pins σ Q) X.xe s
def tA (X : Cx) (es : List Expr) : TA := fun σ H Q => ∀ (pos : Pos) pins s, Inv X pins σ H s → wpAny (model X.prog X.w) X.A (spliced (backTo pos (starEach es X.env))) (AP X pins σ Q) X.xe s
def tG (X : Cx) (tg : Expr) : TG := fun v σ H Q => ∀ pins s u, Inv X pins σ H s → RelV v u → wpAny (model X.prog X.w) X.A (assign tg X.env u) (fun _ s' => ∃ σ' H', Inv X pins σ' H' s' ∧ Q σ' H') X.xe s
def tGs (X : Cx) (ts : List Expr) : TGs := fun vs σ H Q => ∀ pins s us, Inv X pins σ H s → Vals vs us → wpAny (model X.prog X.w) X.A (assignInOrder ((assignEach ts X.env).map (·.2)) us) (fun _ s' => ∃ σ' H', Inv X pins σ' H' s' ∧ Q σ' H') X.xe s
def tI (X : Cx) (tg iter : Expr) : TI := fun σ H R => ∀ pins s, Inv X pins σ H s → wpAny (model X.prog X.w) X.A (eval iter X.env) (fun v s1 => wpAny (model X.prog X.w) X.A (pyIter v) (PIE X pins σ tg R) X.xe s1) X.xe s
def tS (X : Cx) (st : Stmt) : TS := fun D σ H => ∀ pins s, Inv X pins σ H s → wpAny (model X.prog X.w) X.A (exec st X.env) (SP X pins D) X.xe s
def tSs (X : Cx) (st : List Stmt) : TS := fun D σ H => ∀ pins s, Inv X pins σ H s → wpAny (model X.prog X.w) X.A (execs st X.env) (SP X pins D) X.xe s
def tPs (X : Cx) (ifs : List Expr) : TT := fun σ H Q => ∀ pins s, Inv X pins σ H s →
    wpAny (model X.prog X.w) X.A (forIn ifs true fun c r => if r = true then do let ok ← isTrue c X.env (eval c X.env); pure (ForInStep.yield ok) else pure (ForInStep.yield r)) (TP X pins σ Q) X.xe s
section
variable {X : Cx}
theorem sE (e : Expr) : PE X e (tE X e) := ⟨fun pins s _ _ _ I h => h pins s I⟩
theorem sT (e : Expr) : PT X e (tT X e) := ⟨fun pins s _ _ _ I h => h pins s I⟩
theorem sW (e : Expr) : PW X e (tW X e) := ⟨fun wh pins s _ _ _ I h => h wh pins s I⟩
theorem sA (es : List Expr) : PA X es (tA X es) := ⟨fun pos pins s _ _ _ I h => h pos pins s I⟩
theorem sG (tg : Expr) : PG X tg (tG X tg) := ⟨fun pins s _ _ _ u _ I r h => h pins s u I r⟩
theorem sGs (ts : List Expr) : PGs X ts (tGs X ts) := ⟨fun pins s _ _ _ us _ I r h => h pins s us I r⟩
theorem sI (tg iter : Expr) : PI X tg iter (tI X tg iter) := ⟨fun pins s _ _ _ I h => h pins s I⟩
theorem sS (st : Stmt) : PS X st (tS X st) := ⟨fun pins s _ _ _ I h => h pins s I⟩
theorem sSs (st : List Stmt) : PSs X st (tSs X st) := ⟨fun pins s _ _ _ I h => h pins s I⟩
theorem sPs (ifs : List Expr) : PTs X ifs (tPs X ifs) := ⟨fun pins s _ _ _ I h => h pins s I⟩
theorem uE {e : Expr} {t : TE} (p : PE X e t) {σ : L2.St} {H : Hp} {Q : VK} (h : t σ H Q) : tE X e σ H Q := fun pins s I => p.run pins s σ H Q I h
theorem uT {e : Expr} {t : TT} (p : PT X e t) {σ : L2.St} {H : Hp} {Q : Bool → Hp → Prop} (h : t σ H Q) : tT X e σ H Q := fun pins s I => p.run pins s σ H Q I h
theorem uW {e : Expr} {t : TT} (p : PW X e t) {σ : L2.St} {H : Hp} {Q : Bool → Hp → Prop} (h : t σ H Q) : tW X e σ H Q := fun wh pins s I => p.run wh pins s σ H Q I h
theorem uA {es : List Expr} {t : TA} (p : PA X es t) {σ : L2.St} {H : Hp} {Q : List V → Hp → Prop} (h : t σ H Q) : tA X es σ H Q := fun pos pins s I => p.run pos pins s σ H Q I h
theorem uG {tg : Expr} {t : TG} (p : PG X tg t) {v : V} {σ : L2.St} {H : Hp} {Q : L2.St → Hp → Prop} (h : t v σ H Q) : tG X tg v σ H Q := fun pins s u I r => p.run pins s σ H v u Q I r h
theorem uGs {ts : List Expr} {t : TGs} (p : PGs X ts t) {vs : List V} {σ : L2.St} {H : Hp} {Q : L2.St → Hp → Prop} (h : t vs σ H Q) : tGs X ts vs σ H Q := fun pins s us I r => p.run pins s σ H vs us Q I r h
theorem uI {tg iter : Expr} {t : TI} (p : PI X tg iter t) {σ : L2.St} {H : Hp} {R : It → Hp → Prop} (h : t σ H R) : tI X tg iter σ H R := fun pins s I => p.run pins s σ H R I h
theorem uS {st : Stmt} {t : TS} (p : PS X st t) {D : Ends} {σ : L2.St} {H : Hp} (h : t D σ H) : tS X st D σ H := fun pins s I => p.run pins s σ H D I h
theorem uSs {st : List Stmt} {t : TS} (p : PSs X st t) {D : Ends} {σ : L2.St} {H : Hp} (h : t D σ H) : tSs X st D σ H := fun pins s I => p.run pins s σ H D I h
theorem uPs {ifs : List Expr} {t : TT} (p : PTs X ifs t) {σ : L2.St} {H : Hp} {Q : Bool → Hp → Prop} (h : t σ H Q) : tPs X ifs σ H Q := fun pins s I => p.run pins s σ H Q I h
end

/-! ### the judgements over data -/
/-- a sequence that is read: data or a list, its items data -/
def IsSq (F H : Hp) (v : V) (ds : List D) : Prop := ∃ p vs, v = .ref p ∧ (H p = some (.lst vs) ∨ Rd H p (.tup vs)) ∧ DvAll F vs ds
theorem IsSq.step {T : List (Addr × Option Str)} {F H F' H' : Hp} {v : V} {ds : List D} (h : IsSq F H v ds) (s : Stp T [] F H F' H') : IsSq F' H' v ds := by
  obtain ⟨p, vs, e, a, b⟩ := h
  refine ⟨p, vs, e, ?_, s.dvs b⟩
  rcases a with a | a
  · exact .inl (s.ext _ _ a (by simp) (fun _ z => by cases z))
  · refine .inr ?_
    rcases a with a | ⟨o, a⟩
    · exact .inl (s.ext _ _ a (by simp) (fun _ z => by cases z))
    · exact .inr ⟨o, s.ext _ _ a (by simp) (fun _ z => by cases z)⟩
theorem IsSq.sq {F H : Hp} {v : V} {ds : List D} {K : PySem.W.Frag} (h : IsSq F H v ds) : ∃ p vs, v = .ref p ∧ (SqL K H p vs ∨ SqT K H p vs) ∧ DvAll F vs ds := by
  obtain ⟨p, vs, e, a, b⟩ := h
  rcases a with a | a
  · exact ⟨p, vs, e, .inl (SqL.of a), b⟩
  · exact ⟨p, vs, e, .inr (.inl a), b⟩
def ED (X : Cx) (c : Cfg) (δ : List Sd) (e : Expr) (d : D) : Prop := ∀ F H σ Q, Sta c F H σ δ → (∀ v F' H', Stp c.T [] F H F' H' → Dv F' v d → Q v H') → tE X e σ H Q
def EL (X : Cx) (c : Cfg) (δ : List Sd) (e : Expr) (ds : List D) : Prop := ∀ F H σ Q, Sta c F H σ δ →
  (∀ p vs F' H', Stp c.T [] F H F' H' → H p = none → F' p = none → H' p = some (.lst vs) → DvAll F' vs ds → Q (.ref p) H') → tE X e σ H Q
def EQ (X : Cx) (c : Cfg) (δ : List Sd) (e : Expr) (ds : List D) : Prop := ∀ F H σ Q, Sta c F H σ δ → (∀ v F' H', Stp c.T [] F H F' H' → IsSq F' H' v ds → Q v H') → tE X e σ H Q
def EV (X : Cx) (c : Cfg) (δ : List Sd) (e : Expr) (x : V) : Prop := ∀ F H σ Q, Sta c F H σ δ → (∀ F' H', Stp c.T [] F H F' H' → Q x H') → tE X e σ H Q
def ET (X : Cx) (c : Cfg) (δ : List Sd) (e : Expr) (b : Bool) : Prop := ∀ F H σ Q, Sta c F H σ δ → (∀ F' H', Stp c.T [] F H F' H' → Q b H') → tT X e σ H Q
def EW (X : Cx) (c : Cfg) (δ : List Sd) (e : Expr) (b : Bool) : Prop := ∀ F H σ Q, Sta c F H σ δ → (∀ F' H', Stp c.T [] F H F' H' → Q b H') → tW X e σ H Q
def EA (X : Cx) (c : Cfg) (δ : List Sd) (es : List Expr) (ds : List D) : Prop := ∀ F H σ Q, Sta c F H σ δ → (∀ vs F' H', Stp c.T [] F H F' H' → DvAll F' vs ds → Q vs H') → tA X es σ H Q
section
variable {X : Cx} {c : Cfg} {δ : List Sd} {e a b : Expr} {es : List Expr} {pos p : Pos} {d : D} {ds : List D} {i j : Int} {k l : Bool}
/-- a new list that nobody changes is data -/
theorem EL.ed (h : EL X c δ e ds) : ED X c δ e (.list ds) := fun F H σ Q S q => h F H σ Q S fun p vs F' H' s hp hF hH hd => by
  have hsub : Sub F' (upd F' p (.lst vs)) := Sub.new hF
  refine q _ (upd F' p (.lst vs)) H' ⟨s.sub.trans hsub, fun a o z => ?_, s.ext, s.dom, fun a o z => ?_, s.tb⟩ (.lst upd_same (dvAll_sub hsub hd))
  · by_cases ha : a = p
    · subst ha
      rw [upd_same] at z
      cases z
      exact ⟨hH, fun _ z => by cases z⟩
    · rw [upd_ne ha] at z
      exact s.fz a o z
  · by_cases ha : a = p
    · exact .inr (by rw [ha]; exact hp)
    · rw [upd_ne ha] at z
      exact s.new a o z
/-- a list, read -/
def ER (X : Cx) (c : Cfg) (δ : List Sd) (e : Expr) (ds : List D) : Prop := ∀ F H σ Q, Sta c F H σ δ → (∀ r vs F' H', Stp c.T [] F H F' H' → H' r = some (.lst vs) → DvAll F' vs ds → Q (.ref r) H') → tE X e σ H Q
theorem EL.r (h : EL X c δ e ds) : ER X c δ e ds := fun F H σ Q S q => h F H σ Q S fun p vs F' H' s _ _ hH hd => q p vs F' H' s hH hd
theorem ED.r (h : ED X c δ e (.list ds)) : ER X c δ e ds := fun F H σ Q S q => h F H σ Q S fun v F' H' s hv => by
  obtain ⟨p, vs, rfl, e1, e2⟩ := dv_lst hv
  exact q p vs F' H' s (fz_sub s.fz _ _ e1) e2
theorem ER.q (h : ER X c δ e ds) : EQ X c δ e ds := fun F H σ Q S q => h F H σ Q S fun p vs F' H' s hH hd => q _ F' H' s ⟨p, vs, rfl, .inl hH, hd⟩
theorem ED.tq (h : ED X c δ e (.tuple ds)) : EQ X c δ e ds := fun F H σ Q S q => h F H σ Q S fun v F' H' s hv => by
  obtain ⟨p, vs, rfl, e1, e2⟩ := dv_tup hv
  exact q _ F' H' s ⟨p, vs, rfl, .inr (rd_sub (fz_sub s.fz) e1), e2⟩
theorem ED.lq (h : ED X c δ e (.list ds)) : EQ X c δ e ds := fun F H σ Q S q => h F H σ Q S fun v F' H' s hv => by
  obtain ⟨p, vs, rfl, e1, e2⟩ := dv_lst hv
  exact q _ F' H' s ⟨p, vs, rfl, .inl (fz_sub s.fz _ _ e1), e2⟩
theorem EL.q (h : EL X c δ e ds) : EQ X c δ e ds := h.ed.lq

/-! ### names, constants -/
theorem ed_name (n : Nat) {x : Str} (hδ : δ[n]? = some (.d d)) (hN : X.N[n]? = some x := by rfl) (hv : Vis X.env.scope x := by first | exact Or.inl rfl | exact Or.inr (Or.inl rfl) | exact Or.inr (Or.inr rfl)) (hd : (x == ("__debug__" : Str)) = false := by decide)
    (hcd : (x == ("__classdict__" : Str)) = false := by decide) : ED X c δ (.Name x p) d := fun F H σ Q S q => by
  obtain ⟨v, e1, e2⟩ := S.data hδ
  exact uE (pe_var hN hv hd hcd) ⟨v, e1, q v F H S.refl e2⟩
theorem ev_name (n : Nat) {x : Str} {u : V} (hδ : δ[n]? = some (.v u)) (hN : X.N[n]? = some x := by rfl) (hv : Vis X.env.scope x := by first | exact Or.inl rfl | exact Or.inr (Or.inl rfl) | exact Or.inr (Or.inr rfl)) (hd : (x == ("__debug__" : Str)) = false := by decide)
    (hcd : (x == ("__classdict__" : Str)) = false := by decide) : EV X c δ (.Name x p) u := fun F H σ Q S q => uE (pe_var hN hv hd hcd) ⟨u, S.val hδ, q F H S.refl⟩
/-- a list of the def's own, read -/
theorem er_name (n : Nat) {x : Str} (hδ : δ[n]? = some (.l ds)) (hN : X.N[n]? = some x := by rfl) (hv : Vis X.env.scope x := by first | exact Or.inl rfl | exact Or.inr (Or.inl rfl) | exact Or.inr (Or.inr rfl)) (hd : (x == ("__debug__" : Str)) = false := by decide)
    (hcd : (x == ("__classdict__" : Str)) = false := by decide) : ER X c δ (.Name x p) ds := fun F H σ Q S q => by
  obtain ⟨r, vs, e1, _, _, e2, e3⟩ := S.lst hδ
  exact uE (pe_var hN hv hd hcd) ⟨_, e1, q r vs F H S.refl e2 e3⟩
theorem eq_name (n : Nat) {x : Str} (hδ : δ[n]? = some (.l ds)) (hN : X.N[n]? = some x := by rfl) (hv : Vis X.env.scope x := by first | exact Or.inl rfl | exact Or.inr (Or.inl rfl) | exact Or.inr (Or.inr rfl)) (hd : (x == ("__debug__" : Str)) = false := by decide)
    (hcd : (x == ("__classdict__" : Str)) = false := by decide) : EQ X c δ (.Name x p) ds := fun F H σ Q S q => by
  obtain ⟨r, vs, e1, _, _, e2, e3⟩ := S.lst hδ
  exact uE (pe_var hN hv hd hcd) ⟨_, e1, q _ F H S.refl ⟨r, vs, rfl, .inl e2, e3⟩⟩
theorem ed_int {n : Nat} : ED X c δ (.Constant (.int i) n p) (.int i) := fun F H σ Q S q => uE pe_int (q _ F H S.refl (.int i))
theorem ed_bl {n : Nat} : ED X c δ (.Constant (.bool k) n p) (.bool k) := fun F H σ Q S q => uE pe_bl (q _ F H S.refl (.bl k))
theorem ed_non {n : Nat} : ED X c δ (.Constant .none n p) .none := fun F H σ Q S q => uE pe_non (q _ F H S.refl .non)
theorem ed_str {n : Nat} {x : Str} : ED X c δ (.Constant (.str x) n p) (.str x) := fun F H σ Q S q => uE pe_str (q _ F H S.refl (.str x))
/-- a number of the module's top -/
theorem ed_glob {x : Str} {t : Tok} (hm : X.mg x = some (.int i t)) (hg : Gl X x := by rfl) (hd : (x == ("__debug__" : Str)) = false := by decide) : ED X c δ (.Name x p) (.int i) := fun F H σ Q S q =>
  uE (pe_glob (v := .int i) hg hm ⟨t, rfl⟩ hd) (q _ F H S.refl (.int i))

/-! ### numbers -/
theorem ed_add (ha : ED X c δ a (.int i)) (hb : ED X c δ b (.int j)) : ED X c δ (.BinOp a .Add b p) (.int (i + j)) := fun F H σ Q S q => by
  refine uE (pe_op op_add (sE a) (sE b)) ?_
  refine ha F H σ _ S fun v F1 H1 s1 d1 => ?_
  refine hb F1 H1 σ _ (S.step s1) fun v2 F2 H2 s2 d2 => ?_
  exact ⟨i, j, dv_int d1, dv_int d2, q _ F2 H2 (s1.trans s2) (.int _)⟩
theorem ed_sub (ha : ED X c δ a (.int i)) (hb : ED X c δ b (.int j)) : ED X c δ (.BinOp a .Sub b p) (.int (i - j)) := fun F H σ Q S q => by
  refine uE (pe_op op_sub (sE a) (sE b)) ?_
  refine ha F H σ _ S fun v F1 H1 s1 d1 => ?_
  refine hb F1 H1 σ _ (S.step s1) fun v2 F2 H2 s2 d2 => ?_
  exact ⟨i, j, dv_int d1, dv_int d2, q _ F2 H2 (s1.trans s2) (.int _)⟩
theorem ed_mul (ha : ED X c δ a (.int i)) (hb : ED X c δ b (.int j)) (hc : CMul i j) : ED X c δ (.BinOp a .Mult b p) (.int (i * j)) := fun F H σ Q S q => by
  refine uE (pe_op op_mul (sE a) (sE b)) ?_
  refine ha F H σ _ S fun v F1 H1 s1 d1 => ?_
  refine hb F1 H1 σ _ (S.step s1) fun v2 F2 H2 s2 d2 => ?_
  exact ⟨i, j, dv_int d1, dv_int d2, hc, q _ F2 H2 (s1.trans s2) (.int _)⟩
theorem ed_mod (ha : ED X c δ a (.int i)) (hb : ED X c δ b (.int j)) (hc : 0 < j) : ED X c δ (.BinOp a .Mod b p) (.int (i % j)) := fun F H σ Q S q => by
  refine uE (pe_op op_mod (sE a) (sE b)) ?_
  refine ha F H σ _ S fun v F1 H1 s1 d1 => ?_
  refine hb F1 H1 σ _ (S.step s1) fun v2 F2 H2 s2 d2 => ?_
  exact ⟨i, j, dv_int d1, dv_int d2, hc, q _ F2 H2 (s1.trans s2) (.int _)⟩
theorem ed_fdiv (ha : ED X c δ a (.int i)) (hb : ED X c δ b (.int j)) (hc : CDiv i j) : ED X c δ (.BinOp a .FloorDiv b p) (.int (i / j)) := fun F H σ Q S q => by
  refine uE (pe_op op_fdiv (sE a) (sE b)) ?_
  refine ha F H σ _ S fun v F1 H1 s1 d1 => ?_
  refine hb F1 H1 σ _ (S.step s1) fun v2 F2 H2 s2 d2 => ?_
  exact ⟨i, j, dv_int d1, dv_int d2, hc, q _ F2 H2 (s1.trans s2) (.int _)⟩
theorem ed_neg (ha : ED X c δ a (.int i)) : ED X c δ (.UnaryOp .USub a p) (.int (-i)) := fun F H σ Q S q => by
  refine uE (pe_un un_neg (sE a)) ?_
  refine ha F H σ _ S fun v F1 H1 s1 d1 => ?_
  exact ⟨i, dv_int d1, q _ F1 H1 s1 (.int _)⟩

/-! ### comparisons: a rule for values, then as a value or as a test -/
/-- a op b gives k -/
def EC (X : Cx) (c : Cfg) (δ : List Sd) (a : Expr) (op : CmpOp) (b : Expr) (k : Bool) : Prop := ∃ r : R2, OpR X (compareOp op) r ∧ behindInMarks op b = false ∧
  ∀ F H σ (Q : Bool → Hp → Prop), Sta c F H σ δ → (∀ F' H', Stp c.T [] F H F' H' → Q k H') → tE X a σ H fun x H1 => tE X b σ H1 fun y H2 => r x y H2 fun z H3 => ∃ k', z = .bl k' ∧ Q k' H3
theorem EC.ed (h : EC X c δ a op b k) : ED X c δ (.Compare a [op] [b] p) (.bool k) := fun F H σ Q S q => by
  obtain ⟨r, ho, hm, hh⟩ := h
  have ho' : OpR X (compareOp op) (fun x y H Q => r x y H fun z H3 => ∃ k', z = .bl k' ∧ Q (.bl k') H3) := fun pins s σ H x y v u Q I rx ry q => by
    refine thn (ho pins s σ H x y v u _ I rx ry q) fun w' s' ⟨z, H3, I3, r3, k', e, q'⟩ => ?_
    exact ⟨z, H3, I3, r3, by rw [e]; exact q'⟩
  refine uE (pe_cmpR ho' (sE a) (sE b) hm) ?_
  exact hh F H σ (fun k' H3 => Q (.bl k') H3) S fun F' H' s => q _ F' H' s (.bl k)
theorem EC.et (h : EC X c δ a op b k) : ET X c δ (.Compare a [op] [b] p) k := fun F H σ Q S q => by
  obtain ⟨r, ho, hm, hh⟩ := h
  refine uT (pt_cmpR ho (sE a) (sE b) hm) ?_
  exact hh F H σ Q S q
theorem ec_I {op : CmpOp} {g : Int → Int → Bool} (ho : OpR X (compareOp op) (rI0 fun i j => .bl (g i j))) (ha : ED X c δ a (.int i)) (hb : ED X c δ b (.int j)) (hm : behindInMarks op b = false) : EC X c δ a op b (g i j) :=
  ⟨_, ho, hm, fun F H σ Q S q => by
    refine ha F H σ _ S fun v F1 H1 s1 d1 => ?_
    refine hb F1 H1 σ _ (S.step s1) fun v2 F2 H2 s2 d2 => ?_
    exact ⟨i, j, dv_int d1, dv_int d2, _, rfl, q F2 H2 (s1.trans s2)⟩⟩
theorem ec_lt (ha : ED X c δ a (.int i)) (hb : ED X c δ b (.int j)) : EC X c δ a .Lt b (decide (i < j)) := ec_I op_lt ha hb (nomark _)
theorem ec_le (ha : ED X c δ a (.int i)) (hb : ED X c δ b (.int j)) : EC X c δ a .LtE b (decide (i ≤ j)) := ec_I op_le ha hb (nomark _)
theorem ec_gt (ha : ED X c δ a (.int i)) (hb : ED X c δ b (.int j)) : EC X c δ a .Gt b (decide (j < i)) := ec_I op_gt ha hb (nomark _)
theorem ec_ge (ha : ED X c δ a (.int i)) (hb : ED X c δ b (.int j)) : EC X c δ a .GtE b (decide (j ≤ i)) := ec_I op_ge ha hb (nomark _)
/-- flat data -/
def flatD : D → Bool
  | .none => true
  | .bool _ => true
  | .int _ => true
  | .str _ => true
  | _ => false
def scalD : D → D → Bool
  | .none, .none => true | .none, .int _ => true | .int _, .none => true | .none, .bool _ => true | .bool _, .none => true | .none, .str _ => true | .str _, .none => true
  | .int _, .int _ => true | .bool _, .bool _ => true | .str _, .str _ => true
  | .int _, .str _ => true | .str _, .int _ => true | .bool _, .str _ => true | .str _, .bool _ => true
  | _, _ => false
/-- equality of flat data -/
def eqF : D → D → Bool
  | .none, .none => true
  | .bool a, .bool b => decide (a = b)
  | .int a, .int b => decide (a = b)
  | .str a, .str b => decide (a = b)
  | _, _ => false
theorem scal_of {F F' : Hp} {v u : V} {d e : D} (hv : Dv F v d) (hu : Dv F' u e) (h : scalD d e = true) : scal v u = true ∧ decide (v = u) = eqF d e := by
  cases hv <;> cases hu <;> first
    | (cases h; done)
    | exact ⟨rfl, by simp [eqF]⟩
    | exact ⟨rfl, by simp [eqF]; done⟩
theorem ec_eq {e1 e2 : D} (ha : ED X c δ a e1) (hb : ED X c δ b e2) (h : scalD e1 e2 = true) : EC X c δ a .Eq b (eqF e1 e2) :=
  ⟨_, op_eq, nomark _, fun F H σ Q S q => by
    refine ha F H σ _ S fun v F1 H1 s1 d1 => ?_
    refine hb F1 H1 σ _ (S.step s1) fun v2 F2 H2 s2 d2 => ?_
    obtain ⟨z1, z2⟩ := scal_of d1 d2 h
    exact ⟨z1, _, rfl, by rw [z2]; exact q F2 H2 (s1.trans s2)⟩⟩
theorem ec_ne {e1 e2 : D} (ha : ED X c δ a e1) (hb : ED X c δ b e2) (h : scalD e1 e2 = true) : EC X c δ a .NotEq b (!eqF e1 e2) :=
  ⟨_, op_ne, nomark _, fun F H σ Q S q => by
    refine ha F H σ _ S fun v F1 H1 s1 d1 => ?_
    refine hb F1 H1 σ _ (S.step s1) fun v2 F2 H2 s2 d2 => ?_
    obtain ⟨z1, z2⟩ := scal_of d1 d2 h
    exact ⟨z1, _, rfl, by rw [z2]; exact q F2 H2 (s1.trans s2)⟩⟩
/-- of data at any depth -/
theorem ec_eqD {e1 e2 : D} (hu : X.A.units + 64 < cLine) (ha : ED X c δ a e1) (hb : ED X c δ b e2) (h1 : SeqAt.shaped e1 = true) (h2 : SeqAt.shaped e2 = true) : EC X c δ a .Eq b (PyData.eqv e1 e2) :=
  ⟨_, op_eqD hu, nomark _, fun F H σ Q S q => by
    refine ha F H σ _ S fun v F1 H1 s1 d1 => ?_
    refine hb F1 H1 σ _ (S.step s1) fun v2 F2 H2 s2 d2 => ?_
    exact ⟨e1, e2, dv_dp (fz_sub s2.fz) (s2.dv d1), dv_dp (fz_sub s2.fz) d2, h1, h2, _, rfl, q F2 H2 (s1.trans s2)⟩⟩
theorem ec_neD {e1 e2 : D} (hu : X.A.units + 64 < cLine) (ha : ED X c δ a e1) (hb : ED X c δ b e2) (h1 : SeqAt.shaped e1 = true) (h2 : SeqAt.shaped e2 = true) : EC X c δ a .NotEq b (!PyData.eqv e1 e2) :=
  ⟨_, op_neD hu, nomark _, fun F H σ Q S q => by
    refine ha F H σ _ S fun v F1 H1 s1 d1 => ?_
    refine hb F1 H1 σ _ (S.step s1) fun v2 F2 H2 s2 d2 => ?_
    exact ⟨e1, e2, dv_dp (fz_sub s2.fz) (s2.dv d1), dv_dp (fz_sub s2.fz) d2, h1, h2, _, rfl, q F2 H2 (s1.trans s2)⟩⟩
/-- is None -/
def isN : D → Bool
  | .none => true
  | _ => false
theorem isN_of {F : Hp} {v : V} {d : D} (h : Dv F v d) : decide (v = .non) = isN d := by
  cases h <;> simp [isN]
theorem ec_isN {n : Nat} {p' : Pos} (ha : ED X c δ a d) : EC X c δ a .Is (.Constant .none n p') (isN d) :=
  ⟨_, op_isN, nomark _, fun F H σ Q S q => by
    refine ha F H σ _ S fun v F1 H1 s1 d1 => ?_
    refine uE pe_non ?_
    exact ⟨rfl, _, rfl, by rw [isN_of d1]; exact q F1 H1 s1⟩⟩
theorem ec_notN {n : Nat} {p' : Pos} (ha : ED X c δ a d) : EC X c δ a .IsNot (.Constant .none n p') (!isN d) :=
  ⟨_, op_notN, nomark _, fun F H σ Q S q => by
    refine ha F H σ _ S fun v F1 H1 s1 d1 => ?_
    refine uE pe_non ?_
    exact ⟨rfl, _, rfl, by rw [isN_of d1]; exact q F1 H1 s1⟩⟩
/-! ### in, over flat items -/
theorem flat_of {F : Hp} {v : V} {d : D} (h : Dv F v d) (hf : flatD d = true) : flatV v = true := by
  cases h <;> first | rfl | cases hf
def eqW : D → D → Bool
  | .none, .none => true
  | .bool a, .bool b => a == b
  | .bool a, .int b => (if a then 1 else 0) == b
  | .int a, .bool b => a == (if b then 1 else 0)
  | .int a, .int b => a == b
  | .str a, .str b => a == b
  | _, _ => false
def inD (x : D) (xs : List D) : Bool := xs.any fun y => eqW y x
theorem eqV_of {F F' : Hp} {v u : V} {d e : D} (hv : Dv F v d) (hu : Dv F' u e) : eqV v u = eqW d e ∨ flatD d = false ∨ flatD e = false := by
  cases hv <;> cases hu <;> first | exact .inl rfl | exact .inr (.inl rfl) | exact .inr (.inr rfl)
theorem eqV_flat {F F' : Hp} {v u : V} {d e : D} (hv : Dv F v d) (hu : Dv F' u e) (fd : flatD d = true) (fe : flatD e = true) : eqV v u = eqW d e := by
  rcases eqV_of hv hu with z | z | z
  · exact z
  · rw [fd] at z; cases z
  · rw [fe] at z; cases z
theorem inV_of {F F' : Hp} {x : V} {d : D} (hx : Dv F' x d) (fd : flatD d = true) : ∀ {vs : List V} {ds : List D}, DvAll F vs ds → ds.all flatD = true → inV x vs = inD d ds ∧ vs.all flatV = true
  | _, _, .nil, _ => ⟨rfl, rfl⟩
  | v :: vs, e :: ds, .cons h k, f => by
    rw [List.all_cons, Bool.and_eq_true] at f
    obtain ⟨z1, z2⟩ := inV_of hx fd k f.2
    refine ⟨?_, by rw [List.all_cons, flat_of h f.1, z2]; rfl⟩
    show (eqV v x || inV x vs) = (eqW e d || inD d ds)
    rw [eqV_flat h hx f.1 fd, z1]
theorem ec_in (ha : ED X c δ a d) (hb : EQ X c δ b ds) (fd : flatD d = true) (fs : ds.all flatD = true) (hm : behindInMarks .In b = false := by rfl) : EC X c δ a .In b (inD d ds) :=
  ⟨_, op_in_seq, hm, fun F H σ Q S q => by
    refine ha F H σ _ S fun v F1 H1 s1 d1 => ?_
    refine hb F1 H1 σ _ (S.step s1) fun v2 F2 H2 s2 d2 => ?_
    obtain ⟨p, vs, rfl, hq, hd⟩ := d2.sq (K := X.K)
    obtain ⟨z1, z2⟩ := inV_of d1 fd hd fs
    exact ⟨p, vs, rfl, hq, flat_of d1 fd, z2, _, by rw [z1]; rfl, q F2 H2 (s1.trans s2)⟩⟩
theorem ec_notIn (ha : ED X c δ a d) (hb : EQ X c δ b ds) (fd : flatD d = true) (fs : ds.all flatD = true) (hm : behindInMarks .NotIn b = false := by rfl) : EC X c δ a .NotIn b (!inD d ds) :=
  ⟨_, op_notIn_seq, hm, fun F H σ Q S q => by
    refine ha F H σ _ S fun v F1 H1 s1 d1 => ?_
    refine hb F1 H1 σ _ (S.step s1) fun v2 F2 H2 s2 d2 => ?_
    obtain ⟨p, vs, rfl, hq, hd⟩ := d2.sq (K := X.K)
    obtain ⟨z1, z2⟩ := inV_of d1 fd hd fs
    exact ⟨p, vs, rfl, hq, flat_of d1 fd, z2, _, by rw [z1]; rfl, q F2 H2 (s1.trans s2)⟩⟩

/-! ### and, or, not; a if t else b -/
theorem ed_and {rest : List Expr} (ha : ED X c δ a (.bool k)) (hb : k = true → ED X c δ (.BoolOp .And (b :: rest) p) (.bool l)) : ED X c δ (.BoolOp .And (a :: b :: rest) p) (.bool (k && l)) := fun F H σ Q S q => by
  refine uE (pe_and (sE a) (sE _)) ?_
  refine ha F H σ _ S fun v F1 H1 s1 d1 => ?_
  refine ⟨k, dv_bl d1, ?_⟩
  cases k with
  | true => exact hb rfl F1 H1 σ _ (S.step s1) fun v2 F2 H2 s2 d2 => q _ F2 H2 (s1.trans s2) d2
  | false => exact q _ F1 H1 s1 (.bl false)
theorem ed_or {rest : List Expr} (ha : ED X c δ a (.bool k)) (hb : k = false → ED X c δ (.BoolOp .Or (b :: rest) p) (.bool l)) : ED X c δ (.BoolOp .Or (a :: b :: rest) p) (.bool (k || l)) := fun F H σ Q S q => by
  refine uE (pe_or (sE a) (sE _)) ?_
  refine ha F H σ _ S fun v F1 H1 s1 d1 => ?_
  refine ⟨k, dv_bl d1, ?_⟩
  cases k with
  | false => exact hb rfl F1 H1 σ _ (S.step s1) fun v2 F2 H2 s2 d2 => q _ F2 H2 (s1.trans s2) d2
  | true => exact q _ F1 H1 s1 (.bl true)
theorem ed_one {op : BoolOp} (ha : ED X c δ a d) : ED X c δ (.BoolOp op [a] p) d := fun F H σ Q S q => uE (pe_one (sE a)) (ha F H σ _ S q)
theorem ed_not (ha : ED X c δ a (.bool k)) : ED X c δ (.UnaryOp .Not a p) (.bool (!k)) := fun F H σ Q S q => by
  refine uE (pe_not (sE a)) ?_
  refine ha F H σ _ S fun v F1 H1 s1 d1 => ?_
  exact ⟨k, dv_bl d1, q _ F1 H1 s1 (.bl _)⟩
theorem ew_and {rest : List Expr} (ha : ET X c δ a k) (hb : k = true → EW X c δ (.BoolOp .And (b :: rest) p) l) : EW X c δ (.BoolOp .And (a :: b :: rest) p) (k && l) := fun F H σ Q S q => by
  refine uW (pw_and (sT a) (sW _)) ?_
  refine ha F H σ _ S fun F1 H1 s1 => ?_
  cases k with
  | true => exact hb rfl F1 H1 σ _ (S.step s1) fun F2 H2 s2 => q F2 H2 (s1.trans s2)
  | false => exact q F1 H1 s1
theorem ew_or {rest : List Expr} (ha : ET X c δ a k) (hb : k = false → EW X c δ (.BoolOp .Or (b :: rest) p) l) : EW X c δ (.BoolOp .Or (a :: b :: rest) p) (k || l) := fun F H σ Q S q => by
  refine uW (pw_or (sT a) (sW _)) ?_
  refine ha F H σ _ S fun F1 H1 s1 => ?_
  cases k with
  | false => exact hb rfl F1 H1 σ _ (S.step s1) fun F2 H2 s2 => q F2 H2 (s1.trans s2)
  | true => exact q F1 H1 s1
theorem ew_and1 (ha : ET X c δ a k) : EW X c δ (.BoolOp .And [a] p) k := fun F H σ Q S q => uW (pw_and1 (sT a)) (ha F H σ _ S q)
theorem ew_or1 (ha : ET X c δ a k) : EW X c δ (.BoolOp .Or [a] p) k := fun F H σ Q S q => uW (pw_or1 (sT a)) (ha F H σ _ S q)
theorem EW.et (h : EW X c δ e k) : ET X c δ e k := fun F H σ Q S q => uT (PW.pt (sW e)) (h F H σ _ S q)
theorem et_not (ha : ET X c δ a k) : ET X c δ (.UnaryOp .Not a p) (!k) := fun F H σ Q S q => uT (pt_not (sT a)) (ha F H σ _ S fun F1 H1 s1 => q F1 H1 s1)
/-- a call, a name .. that is True or False, as a test -/
theorem et_val (h : ED X c δ e (.bool k)) (he : ∀ whole, isTrue e X.env whole = (do let v ← whole; standAt e.pos; holding [v] (truthy v)) := by intro _; rfl) : ET X c δ e k := fun F H σ Q S q => by
  refine uT (pt_val (sE e) he) ?_
  exact h F H σ _ S fun v F1 H1 s1 d1 => ⟨k, dv_bl d1, q F1 H1 s1⟩
theorem ed_if {t : Expr} {d1 d2 : D} (ht : ET X c δ t k) (ha : k = true → ED X c δ a d1) (hb : k = false → ED X c δ b d2) : ED X c δ (.IfExp t a b p) (if k then d1 else d2) := fun F H σ Q S q => by
  refine uE (pe_ifExp (sT t) (sE a) (sE b)) ?_
  refine ht F H σ _ S fun F1 H1 s1 => ?_
  cases k with
  | true => exact ha rfl F1 H1 σ _ (S.step s1) fun v F2 H2 s2 d2 => q v F2 H2 (s1.trans s2) d2
  | false => exact hb rfl F1 H1 σ _ (S.step s1) fun v F2 H2 s2 d2 => q v F2 H2 (s1.trans s2) d2
theorem ed_ifc {t : Expr} (ht : ET X c δ t k) (ha : k = true → ED X c δ a d) (hb : k = false → ED X c δ b d) : ED X c δ (.IfExp t a b p) d := by
  have h := ed_if (p := p) ht ha hb
  rwa [show (if k then d else d) = d by cases k <;> rfl] at h
/-- a op1 b op2 c on numbers -/
theorem ed_chain {op op' : CmpOp} {g g' : Int → Int → Bool} {e3 : Expr} {m : Int} (ho : OpR X (compareOp op) (rI0 fun i j => .bl (g i j))) (ho' : OpR X (compareOp op') (rI0 fun i j => .bl (g' i j)))
    (ha : ED X c δ a (.int i)) (hb : ED X c δ b (.int j)) (hc : g i j = true → ED X c δ e3 (.int m)) (hm : lastMarks [op, op'] [b, e3] = false := by with_unfolding_all rfl) : ED X c δ (.Compare a [op, op'] [b, e3] p) (.bool (g i j && g' j m)) := fun F H σ Q S q => by
  refine uE (pe_chain ho ho' (sE a) (sE b) (sE e3) hm) ?_
  refine ha F H σ _ S fun v F1 H1 s1 d1 => ?_
  refine hb F1 H1 σ _ (S.step s1) fun v2 F2 H2 s2 d2 => ?_
  refine ⟨i, j, dv_int d1, dv_int d2, _, rfl, ?_⟩
  cases hg : g i j with
  | false =>
    refine iteF (q (.bl false) F2 H2 (s1.trans s2) ?_)
    rw [hg, Bool.false_and]
    exact .bl false
  | true =>
    refine iteT (hc hg F2 H2 σ _ (S.step (s1.trans s2)) fun v3 F3 H3 s3 d3 => ?_)
    refine ⟨j, m, dv_int d2, dv_int d3, q (.bl (g' j m)) F3 H3 ((s1.trans s2).trans s3) ?_⟩
    rw [hg, Bool.true_and]
    exact .bl _

/-! ### displays, lengths, places -/
theorem ea_nil : EA X c δ [] [] := fun F H σ Q S q => uA pa_nil (q _ F H S.refl .nil)
theorem ea_cons (ha : ED X c δ e d) (hr : EA X c δ es ds) (hs : starEach (e :: es) X.env = (false, eval e X.env) :: starEach es X.env := by rfl) : EA X c δ (e :: es) (d :: ds) := fun F H σ Q S q => by
  refine uA (pa_cons (sE e) (sA es) hs) ?_
  refine ha F H σ _ S fun v F1 H1 s1 d1 => ?_
  refine hr F1 H1 σ _ (S.step s1) fun vs F2 H2 s2 d2 => ?_
  exact q _ F2 H2 (s1.trans s2) (.cons (s2.dv d1) d2)
theorem fresh_F {T : List (Addr × Option Str)} {Mx : List Addr} {F H F' H' : Hp} {r : Addr} (s : Stp T Mx F H F' H') (h : H' r = none) : F' r = none := by
  cases e : F' r with
  | none => rfl
  | some u => rw [(s.fz r u e).1] at h; cases h
theorem ed_tup {n : Nat} (ha : EA X c δ es ds) (hl : ds.length ≤ sizeLine := by first | decide | exact of_decide_eq_true rfl) : ED X c δ (.Tuple es n p) (.tuple ds) := fun F H σ Q S q => by
  refine uE (pe_tup (sA es)) ?_
  refine ha F H σ _ S fun vs F1 H1 s1 d1 => ?_
  refine ⟨by rw [dvAll_len d1]; exact hl, fun r hr => ?_⟩
  have hF := fresh_F s1 hr
  exact q _ _ _ (s1.trans (Stp.newF s1.fz s1.tb hr (fun _ z => by cases z))) (.tup (.inl upd_same) (dvAll_sub (Sub.new hF) d1))
theorem el_lst (ha : EA X c δ es ds) (hl : ds.length ≤ sizeLine := by first | decide | exact of_decide_eq_true rfl) : EL X c δ (.List es p) ds := fun F H σ Q S q => by
  refine uE (pe_lst (sA es)) ?_
  refine ha F H σ _ S fun vs F1 H1 s1 d1 => ?_
  refine ⟨by rw [dvAll_len d1]; exact hl, fun r hr => ?_⟩
  exact q r vs F1 _ (s1.trans (Stp.newO s1.fz s1.tb hr)) (s1.dom r hr) (fresh_F s1 hr) upd_same d1
theorem ed_len (ha : EQ X c δ e ds) (hm : X.mg "len" = none) (hg : Gl X "len" := by rfl) (he : starEach (e :: []) X.env = (false, eval e X.env) :: starEach [] X.env := by rfl) (hpl : (backTo pos (starEach [] X.env)).any (·.1) = false := by rfl) :
    ED X c δ (.Call (.Name "len" p) [e] [] pos) (.int ds.length) := fun F H σ Q S q => by
  refine uE (pe_callB call_len_seq hg hm PySem.boot_len (pa_cons (sE e) pa_nil he) (by decide) (by decide) he hpl) ?_
  refine ha F H σ _ S fun v F1 H1 s1 d1 => ?_
  obtain ⟨r, vs, rfl, hq, hd⟩ := d1.sq (K := X.K)
  exact ⟨r, vs, rfl, hq, by rw [dvAll_len hd]; exact q _ F1 H1 s1 (.int _)⟩
theorem atI_nat {ds : List D} {i : Nat} {d : D} (h : ds[i]? = some d) : atI ds (i : Int) = some d := by
  obtain ⟨hl, _⟩ := List.getElem?_eq_some_iff.mp h
  unfold atI ixN
  first
    | (simp [h, hl]; done)
    | (simp [hl]; omega)
    | (rw [if_pos (by omega)]; simpa using h)
theorem atI_of {F : Hp} {vs : List V} {ds : List D} {i : Int} {d : D} (h : DvAll F vs ds) (e : atI ds i = some d) : ∃ v, atI vs i = some v ∧ Dv F v d := by
  unfold atI at e ⊢
  rw [dvAll_len h]
  cases q : ixN ds.length i with
  | none => rw [q] at e; cases e
  | some j =>
    rw [q] at e
    exact dvAll_get h e
theorem ed_ix (ha : EQ X c δ a ds) (hb : ED X c δ b (.int i)) (h : atI ds i = some d) (hs : PlainIx b := by intro _ _; rfl) : ED X c δ (.Subscript a b p) d := fun F H σ Q S q => by
  refine uE (pe_ix ix_seq (sE a) (sE b) hs) ?_
  refine ha F H σ _ S fun v F1 H1 s1 d1 => ?_
  refine hb F1 H1 σ _ (S.step s1) fun v2 F2 H2 s2 d2 => ?_
  obtain ⟨r, vs, rfl, hq, hd⟩ := (d1.step s2).sq (K := X.K)
  obtain ⟨x, h1, h2⟩ := atI_of hd h
  rcases hq with hq | hq
  · exact .inl ⟨r, vs, i, x, rfl, dv_int d2, hq, h1, q _ F2 H2 (s1.trans s2) h2⟩
  · exact .inr (.inl ⟨r, vs, i, x, rfl, dv_int d2, hq, h1, q _ F2 H2 (s1.trans s2) h2⟩)
/-- (..) + (..) -/
theorem ed_catT {xs ys : List D} (ha : ED X c δ a (.tuple xs)) (hb : ED X c δ b (.tuple ys)) (hl : xs.length + ys.length ≤ sizeLine) : ED X c δ (.BinOp a .Add b p) (.tuple (xs ++ ys)) := fun F H σ Q S q => by
  refine uE (pe_op op_catA (sE a) (sE b)) ?_
  refine ha F H σ _ S fun v F1 H1 s1 d1 => ?_
  refine hb F1 H1 σ _ (S.step s1) fun v2 F2 H2 s2 d2 => ?_
  have s := s1.trans s2
  have d1' := s2.dv d1
  obtain ⟨r1, vs1, rfl, e1, k1⟩ := dv_tup d1'
  obtain ⟨r2, vs2, rfl, e2, k2⟩ := dv_tup d2
  have l1 := dvAll_len k1
  have l2 := dvAll_len k2
  refine ⟨r1, r2, vs1, vs2, rfl, rfl, .inl (rd_sub (fz_sub s.fz) e1), .inl (rd_sub (fz_sub s.fz) e2), by rw [l1, l2]; exact hl, fun z => ?_, fun z1 z2 => ?_, fun z1 z2 r hr => ?_⟩
  · have : xs = [] := by rw [z] at l1; exact List.length_eq_zero_iff.mp l1.symm
    subst this
    exact q _ F2 H2 s d2
  · have : ys = [] := by rw [z2] at l2; exact List.length_eq_zero_iff.mp l2.symm
    subst this
    refine q _ F2 H2 s ?_
    rw [List.append_nil]
    exact d1'
  · have hF := fresh_F s hr
    exact q _ _ _ (s.trans (Stp.newF s.fz s.tb hr (fun _ z => by cases z))) (.tup (.inl upd_same) (dvAll_sub (Sub.new hF) (dvAll_app k1 k2)))
/-- [..] + [..] -/
theorem el_cat {xs ys : List D} (ha : ER X c δ a xs) (hb : ER X c δ b ys) (hl : xs.length + ys.length ≤ sizeLine) : EL X c δ (.BinOp a .Add b p) (xs ++ ys) := fun F H σ Q S q => by
  refine uE (pe_op op_cat (sE a) (sE b)) ?_
  refine ha F H σ _ S fun r1 vs1 F1 H1 s1 e1 k1 => ?_
  refine hb F1 H1 σ _ (S.step s1) fun r2 vs2 F2 H2 s2 e2 k2 => ?_
  have s := s1.trans s2
  refine ⟨r1, r2, vs1, vs2, rfl, rfl, s2.ext _ _ e1 (by simp) (fun _ z => by cases z), e2, by rw [dvAll_len k1, dvAll_len k2]; exact hl, fun r hr => ?_⟩
  exact q r _ F2 _ (s.trans (Stp.newO s.fz s.tb hr)) (s.dom r hr) (fresh_F s hr) upd_same (dvAll_app (s2.dvs k1) k2)
/-- tuple(xs) -/
theorem ed_tuple (ha : ER X c δ e ds) (hm : X.mg "tuple" = none) (hg : Gl X "tuple" := by rfl) (he : starEach (e :: []) X.env = (false, eval e X.env) :: starEach [] X.env := by rfl) (hpl : (backTo pos (starEach [] X.env)).any (·.1) = false := by rfl) :
    ED X c δ (.Call (.Name "tuple" p) [e] [] pos) (.tuple ds) := fun F H σ Q S q => by
  refine uE (pe_callTy call_tuple_of hg hm (by decide +kernel) (pa_cons (sE e) pa_nil he) (by decide) (by decide) he hpl) ?_
  refine ha F H σ _ S fun r vs F1 H1 s1 e1 k1 => ?_
  refine ⟨r, vs, rfl, .inl ⟨SqL.of e1, fun l hl => ?_⟩⟩
  exact q _ _ _ (s1.trans (Stp.newF s1.fz s1.tb hl (fun _ z => by cases z))) (.tup (.inl upd_same) (dvAll_sub (Sub.new (fresh_F s1 hl)) k1))
/-- list(xs) -/
theorem el_list (ha : EQ X c δ e ds) (hm : X.mg "list" = none) (hg : Gl X "list" := by rfl) (he : starEach (e :: []) X.env = (false, eval e X.env) :: starEach [] X.env := by rfl) (hpl : (backTo pos (starEach [] X.env)).any (·.1) = false := by rfl) :
    EL X c δ (.Call (.Name "list" p) [e] [] pos) ds := fun F H σ Q S q => by
  refine uE (pe_callTy call_list_of hg hm (by decide +kernel) (pa_cons (sE e) pa_nil he) (by decide) (by decide) he hpl) ?_
  refine ha F H σ _ S fun v F1 H1 s1 d1 => ?_
  obtain ⟨r, vs, rfl, hq, hd⟩ := d1.sq (K := X.K)
  refine ⟨r, vs, rfl, hq, fun l hl => ?_⟩
  exact q l vs F1 _ (s1.trans (Stp.newO s1.fz s1.tb hl)) (s1.dom l hl) (fresh_F s1 hl) upd_same hd
/-- any(..), all(..) of a list of truth values; max, min, sum of numbers -/
theorem ed_anyL {bs : List Bool} (ha : ER X c δ e (bs.map .bool)) (hc : X.calm = true) (hm : X.mg "any" = none) (hg : Gl X "any" := by rfl) (he : starEach (e :: []) X.env = (false, eval e X.env) :: starEach [] X.env := by rfl) (hpl : (backTo pos (starEach [] X.env)).any (·.1) = false := by rfl) :
    ED X c δ (.Call (.Name "any" p) [e] [] pos) (.bool (bs.any id)) := fun F H σ Q S q => by
  refine uE (pe_callB (cr_any hc) hg hm (by decide +kernel) (pa_cons (sE e) pa_nil he) (by decide) (by decide) he hpl) ?_
  refine ha F H σ _ S fun r vs F1 H1 s1 e1 k1 => ?_
  rw [dvAll_bools k1] at e1
  exact ⟨r, bs, rfl, SqL.of e1, q _ F1 H1 s1 (.bl _)⟩
theorem ed_allL {bs : List Bool} (ha : ER X c δ e (bs.map .bool)) (hc : X.calm = true) (hm : X.mg "all" = none) (hg : Gl X "all" := by rfl) (he : starEach (e :: []) X.env = (false, eval e X.env) :: starEach [] X.env := by rfl) (hpl : (backTo pos (starEach [] X.env)).any (·.1) = false := by rfl) :
    ED X c δ (.Call (.Name "all" p) [e] [] pos) (.bool (bs.all id)) := fun F H σ Q S q => by
  refine uE (pe_callB (cr_all hc) hg hm (by decide +kernel) (pa_cons (sE e) pa_nil he) (by decide) (by decide) he hpl) ?_
  refine ha F H σ _ S fun r vs F1 H1 s1 e1 k1 => ?_
  rw [dvAll_bools k1] at e1
  exact ⟨r, bs, rfl, SqL.of e1, q _ F1 H1 s1 (.bl _)⟩
theorem ed_sum {ns : List Int} (ha : ER X c δ e (ns.map .int)) (hc : X.calm = true) (hm : X.mg "sum" = none) (hg : Gl X "sum" := by rfl) (he : starEach (e :: []) X.env = (false, eval e X.env) :: starEach [] X.env := by rfl) (hpl : (backTo pos (starEach [] X.env)).any (·.1) = false := by rfl) :
    ED X c δ (.Call (.Name "sum" p) [e] [] pos) (.int ns.sum) := fun F H σ Q S q => by
  refine uE (pe_callB (cr_sum hc) hg hm (by decide +kernel) (pa_cons (sE e) pa_nil he) (by decide) (by decide) he hpl) ?_
  refine ha F H σ _ S fun r vs F1 H1 s1 e1 k1 => ?_
  rw [dvAll_ints k1] at e1
  exact ⟨r, ns, rfl, SqL.of e1, q _ F1 H1 s1 (.int _)⟩
theorem ed_max {ns : List Int} {m : Int} (ha : ER X c δ e (ns.map .int)) (h1 : m ∈ ns) (h2 : ∀ y, y ∈ ns → y ≤ m) (hc : X.calm = true) (hm : X.mg "max" = none) (hg : Gl X "max" := by rfl) (he : starEach (e :: []) X.env = (false, eval e X.env) :: starEach [] X.env := by rfl) (hpl : (backTo pos (starEach [] X.env)).any (·.1) = false := by rfl) :
    ED X c δ (.Call (.Name "max" p) [e] [] pos) (.int m) := fun F H σ Q S q => by
  refine uE (pe_callB (cr_max hc) hg hm (by decide +kernel) (pa_cons (sE e) pa_nil he) (by decide) (by decide) he hpl) ?_
  refine ha F H σ _ S fun r vs F1 H1 s1 e1 k1 => ?_
  rw [dvAll_ints k1] at e1
  refine ⟨r, ns, rfl, SqL.of e1, List.length_pos_of_mem h1, fun n hn hle => ?_⟩
  have : n = m := Int.le_antisymm (h2 n hn) (hle m h1)
  rw [this]
  exact q _ F1 H1 s1 (.int _)
theorem ed_min {ns : List Int} {m : Int} (ha : ER X c δ e (ns.map .int)) (h1 : m ∈ ns) (h2 : ∀ y, y ∈ ns → m ≤ y) (hc : X.calm = true) (hm : X.mg "min" = none) (hg : Gl X "min" := by rfl) (he : starEach (e :: []) X.env = (false, eval e X.env) :: starEach [] X.env := by rfl) (hpl : (backTo pos (starEach [] X.env)).any (·.1) = false := by rfl) :
    ED X c δ (.Call (.Name "min" p) [e] [] pos) (.int m) := fun F H σ Q S q => by
  refine uE (pe_callB (cr_min hc) hg hm (by decide +kernel) (pa_cons (sE e) pa_nil he) (by decide) (by decide) he hpl) ?_
  refine ha F H σ _ S fun r vs F1 H1 s1 e1 k1 => ?_
  rw [dvAll_ints k1] at e1
  refine ⟨r, ns, rfl, SqL.of e1, List.length_pos_of_mem h1, fun n hn hle => ?_⟩
  have : n = m := Int.le_antisymm (hle m h1) (h2 n hn)
  rw [this]
  exact q _ F1 H1 s1 (.int _)
/-- two numbers -/
theorem ed_max2 (ha : ED X c δ a (.int i)) (hb : ED X c δ b (.int j)) (hc : X.calm = true) (hm : X.mg "max" = none) (hg : Gl X "max" := by rfl) (he : starEach (a :: [b]) X.env = (false, eval a X.env) :: starEach [b] X.env := by rfl) (he2 : starEach (b :: []) X.env = (false, eval b X.env) :: starEach [] X.env := by rfl) (hpl : (backTo pos (starEach [b] X.env)).any (·.1) = false := by rfl) :
    ED X c δ (.Call (.Name "max" p) [a, b] [] pos) (.int (if j > i then j else i)) := fun F H σ Q S q => by
  refine uE (pe_callB (call_max2 hc) hg hm (by decide +kernel) (pa_cons (sE a) (pa_cons (sE b) pa_nil he2) he) (by decide) (by decide) he hpl) ?_
  refine ha F H σ _ S fun v F1 H1 s1 d1 => ?_
  refine hb F1 H1 σ _ (S.step s1) fun v2 F2 H2 s2 d2 => ?_
  exact ⟨i, j, by rw [dv_int d1, dv_int d2], q _ F2 H2 (s1.trans s2) (.int _)⟩
theorem ed_min2 (ha : ED X c δ a (.int i)) (hb : ED X c δ b (.int j)) (hc : X.calm = true) (hm : X.mg "min" = none) (hg : Gl X "min" := by rfl) (he : starEach (a :: [b]) X.env = (false, eval a X.env) :: starEach [b] X.env := by rfl) (he2 : starEach (b :: []) X.env = (false, eval b X.env) :: starEach [] X.env := by rfl) (hpl : (backTo pos (starEach [b] X.env)).any (·.1) = false := by rfl) :
    ED X c δ (.Call (.Name "min" p) [a, b] [] pos) (.int (if j < i then j else i)) := fun F H σ Q S q => by
  refine uE (pe_callB (call_min2 hc) hg hm (by decide +kernel) (pa_cons (sE a) (pa_cons (sE b) pa_nil he2) he) (by decide) (by decide) he hpl) ?_
  refine ha F H σ _ S fun v F1 H1 s1 d1 => ?_
  refine hb F1 H1 σ _ (S.step s1) fun v2 F2 H2 s2 d2 => ?_
  exact ⟨i, j, by rw [dv_int d1, dv_int d2], q _ F2 H2 (s1.trans s2) (.int _)⟩
/-- isinstance -/
def tyD : D → String
  | .none => "NoneType"
  | .bool _ => "bool"
  | .int _ => "int"
  | .str _ => "str"
  | .list _ => "list"
  | .tuple _ => "tuple"
  | .dict _ => "dict"
theorem tyX_of {K : PySem.W.Frag} {F H : Hp} (hF : Fz F H) {v : V} {d : D} (h : Dv F v d) : TyX K H v (.type (tyD d)) := by
  cases h with
  | non => exact .base .non
  | bl b => exact .base (.bl b)
  | int i => exact .base (.int i)
  | str x => exact .base (.str x)
  | lst e k => exact .base (.lst (fz_sub hF _ _ e))
  | tup e k =>
    rcases e with e | ⟨o, e⟩
    · exact .base (.tup (fz_sub hF _ _ e))
    · exact .fTuple (fz_sub hF _ _ e)
theorem ed_isi {n : Str} {T : String} {p2 : Pos} (ha : ED X c δ a d) (hk : kitB (tyD d) T = some k) (hm : X.mg "isinstance" = none) (hmT : X.mg n = none) (hv : bootBuiltins n = some (.type T) := by decide +kernel) (hg : Gl X "isinstance" := by rfl) (hgT : Gl X n := by rfl)
    (hn : n ≠ "__name__" := by decide) (hd : (n == ("__debug__" : Str)) = false := by decide)
    (he : starEach (a :: [.Name n p2]) X.env = (false, eval a X.env) :: starEach [.Name n p2] X.env := by rfl) (he2 : starEach (.Name n p2 :: []) X.env = (false, eval (.Name n p2) X.env) :: starEach [] X.env := by rfl) (hpl : (backTo pos (starEach [.Name n p2] X.env)).any (·.1) = false := by rfl) :
    ED X c δ (.Call (.Name "isinstance" p) [a, .Name n p2] [] pos) (.bool k) := fun F H σ Q S q => by
  refine uE (pe_callB call_isi hg hm (by decide +kernel) (pa_cons (sE a) (pa_cons (pe_bltn (v := .ty T) (u := .type T) hgT hmT hv rfl hn hd) pa_nil he2) he) (by decide) (by decide) he hpl) ?_
  refine ha F H σ _ S fun v F1 H1 s1 d1 => ?_
  exact ⟨v, .ty T, _, _, k, rfl, .ty T, tyX_of s1.fz d1, kit_ty hk, q _ F1 H1 s1 (.bl _)⟩
end
end Fs

set_option Elab.async false
set_option linter.all false
set_option maxRecDepth 100000
set_option maxHeartbeats 4000000
/-! Firesseen: slices, targets, iterators, comprehensions over data. -/
namespace Fs
open PySem PySem.Spec L2

/-! ### slices -/
def cutD (xs : List D) (lo hi : Option Int) : List D := (xs.drop (HT.sIx xs.length 0 lo)).take (HT.sIx xs.length xs.length hi - HT.sIx xs.length 0 lo)
theorem cut_of {F : Hp} {vs : List V} {ds : List D} (h : DvAll F vs ds) (lo hi : Option Int) : DvAll F (cutV vs lo hi) (cutD ds lo hi) := by
  unfold cutV cutD
  rw [dvAll_len h]
  exact dvAll_take _ (dvAll_drop _ h)
def EO (X : Cx) (c : Cfg) (δ : List Sd) (e : Option Expr) (o : Option Int) : Prop := ∃ t, PO X e t ∧ ∀ F H σ Q, Sta c F H σ δ → (∀ F' H', Stp c.T [] F H F' H' → Q o H') → t σ H Q
section
variable {X : Cx} {c : Cfg} {δ δ' δ2 : List Sd} {e a b tg iter elt : Expr} {es ifs : List Expr} {pos p : Pos} {d : D} {ds : List D} {i j : Int} {k l : Bool} {is js : List Nat}
theorem eo_none : EO X c δ none none := ⟨_, po_none, fun F H σ Q S q => q F H S.refl⟩
theorem eo_some (h : ED X c δ e (.int i)) : EO X c δ (some e) (some i) := ⟨_, po_some (sE e), fun F H σ Q S q => h F H σ _ S fun v F1 H1 s1 d1 => ⟨i, dv_int d1, q F1 H1 s1⟩⟩
theorem ed_slT {lo hi : Option Expr} {ol oh : Option Int} {p2 : Pos} (ha : ED X c δ a (.tuple ds)) (hl : EO X c δ lo ol) (hh : EO X c δ hi oh) : ED X c δ (.Subscript a (.Slice lo hi none p2) p) (.tuple (cutD ds ol oh)) := fun F H σ Q S q => by
  obtain ⟨tl, p1, q1⟩ := hl
  obtain ⟨th, p2, q2⟩ := hh
  refine uE (pe_slice sl_tupA (sE a) p1 p2) ?_
  refine ha F H σ _ S fun v F1 H1 s1 d1 => ?_
  refine q1 F1 H1 σ _ (S.step s1) fun F2 H2 s2 => ?_
  refine q2 F2 H2 σ _ ((S.step s1).step s2) fun F3 H3 s3 => ?_
  have s := (s1.trans s2).trans s3
  have d3 := s3.dv (s2.dv d1)
  obtain ⟨r, vs, rfl, e1, k1⟩ := dv_tup d3
  have hlen := dvAll_len k1
  refine ⟨r, vs, rfl, .inl (rd_sub (fz_sub s.fz) e1), fun hw => ?_, fun hw r2 hr => ?_⟩
  · refine q _ F3 H3 s ?_
    have : cutD ds ol oh = ds := by
      unfold cutD
      rw [hlen] at hw
      rw [hw.1, hw.2]
      simp
    rw [this]
    exact d3
  · exact q _ _ _ (s.trans (Stp.newF s.fz s.tb hr (fun _ z => by cases z))) (.tup (.inl upd_same) (dvAll_sub (Sub.new (fresh_F s hr)) (cut_of k1 ol oh)))
theorem el_slL {lo hi : Option Expr} {ol oh : Option Int} {p2 : Pos} (ha : ER X c δ a ds) (hl : EO X c δ lo ol) (hh : EO X c δ hi oh) : EL X c δ (.Subscript a (.Slice lo hi none p2) p) (cutD ds ol oh) := fun F H σ Q S q => by
  obtain ⟨tl, p1, q1⟩ := hl
  obtain ⟨th, p2, q2⟩ := hh
  refine uE (pe_slice sl_list (sE a) p1 p2) ?_
  refine ha F H σ _ S fun r vs F1 H1 s1 e1 k1 => ?_
  refine q1 F1 H1 σ _ (S.step s1) fun F2 H2 s2 => ?_
  refine q2 F2 H2 σ _ ((S.step s1).step s2) fun F3 H3 s3 => ?_
  have s := (s1.trans s2).trans s3
  have s' := s2.trans s3
  refine ⟨r, vs, rfl, SqL.of (s'.ext _ _ e1 (by simp) (fun _ z => by cases z)), fun r2 hr => ?_⟩
  exact q r2 _ F3 _ (s.trans (Stp.newO s.fz s.tb hr)) (s.dom r2 hr) (fresh_F s hr) upd_same (cut_of (s'.dvs k1) ol oh)

/-! ### targets -/
/-- x is stored to tg: the slots is change, δ' stands behind -/
def EG (X : Cx) (c : Cfg) (δ : List Sd) (tg : Expr) (x : D) (is : List Nat) (δ' : List Sd) : Prop := ∀ F H σ v Q, Sta c F H σ δ → Dv F v x →
  (∀ σ' : L2.St, Sta c F H σ' δ' → σ'.length = σ.length → (∀ j : Nat, j ∉ is → σ'[j]? = σ[j]?) → Q σ' H) → tG X tg v σ H Q
def EGs (X : Cx) (c : Cfg) (δ : List Sd) (ts : List Expr) (xs : List D) (is : List Nat) (δ' : List Sd) : Prop := ∀ F H σ vs Q, Sta c F H σ δ → DvAll F vs xs →
  (∀ σ' : L2.St, Sta c F H σ' δ' → σ'.length = σ.length → (∀ j : Nat, j ∉ is → σ'[j]? = σ[j]?) → Q σ' H) → tGs X ts vs σ H Q
theorem eg_name (n : Nat) {x : Str} (hN : X.N.Nodup) (hi : X.N[n]? = some x := by rfl) (hx : Loc X.env.scope x := by first | exact Or.inl rfl | exact Or.inr rfl) (hf : X.fn x = true ∨ X.env.scope.names.lookup x = some .local := by first | exact .inl rfl | exact .inr rfl) :
    EG X c δ (.Name x p) d [n] (δ.set n (.d d)) := fun F H σ v Q S hv q => by
  refine uG (pg_name hN hi hx hf) ?_
  refine q _ (S.set n rfl ⟨v, rfl, hv⟩) (List.length_set) fun j hj => ?_
  exact List.getElem?_set_ne (fun z => hj (by rw [z]; exact List.mem_singleton.mpr rfl))
theorem egs_nil : EGs X c δ [] [] [] δ := fun F H σ vs Q S hv q => by
  refine uGs pgs_nil ⟨?_, q σ S rfl fun _ _ => rfl⟩
  cases hv
  rfl
theorem egs_cons (h1 : EG X c δ e d is δ') (h2 : EGs X c δ' es ds js δ2) (hs : (assignEach (e :: es) X.env).map (·.2) = assign e X.env :: (assignEach es X.env).map (·.2) := by rfl) : EGs X c δ (e :: es) (d :: ds) (is ++ js) δ2 := fun F H σ vs Q S hv q => by
  cases hv with
  | cons hv1 hv2 =>
    refine uGs (pgs_cons (sG e) (sGs es) hs) ⟨_, _, rfl, ?_⟩
    refine h1 F H σ _ _ S hv1 fun σ1 S1 l1 k1 => ?_
    refine h2 F H σ1 _ _ S1 hv2 fun σ2 S2 l2 k2 => ?_
    exact q σ2 S2 (l2.trans l1) fun j hj => by
      rw [List.mem_append, not_or] at hj
      rw [k2 j hj.2, k1 j hj.1]
theorem eg_tup {n : Nat} (hc : X.calm = true) (h : EGs X c δ es ds is δ') (hn : (assignEach es X.env).length = ds.length := by rfl) (hst : (assignEach es X.env).findIdx? (·.1) = none := by rfl) : EG X c δ (.Tuple es n p) (.tuple ds) is δ' := fun F H σ v Q S hv q => by
  obtain ⟨r, vs, rfl, e1, k1⟩ := dv_tup hv
  refine uG (pg_tup hc (sGs es) hn hst) ⟨r, vs, rfl, .inl (rd_sub (fz_sub S.fz) e1), dvAll_len k1, ?_⟩
  exact h F H σ vs Q S k1 q

/-! ### iterators -/
/-- J walks ds, as long as what was frozen stands -/
def ItF (T : List (Addr × Option Str)) (J : It) (F : Hp) (ds : List D) : Prop := ∀ F' H', Sub F F' → Fz F' H' → Tb T H' → ∀ i : Nat, (∀ x, ds[i]? = some x → J.go i H' ∧ ∀ v H'', J.yld i H' v H'' → ∃ F'', Stp T [] F' H' F'' H'' ∧ Dv F'' v x) ∧ (ds.length ≤ i → J.stop i H')
/-- .. as long as nothing changes -/
def ItC (T : List (Addr × Option Str)) (J : It) (F H : Hp) (ds : List D) : Prop := ∀ F' H', Stp T [] F H F' H' → ∀ i : Nat, (∀ x, ds[i]? = some x → J.go i H' ∧ ∀ v H'', J.yld i H' v H'' → ∃ F'', Stp T [] F' H' F'' H'' ∧ Dv F'' v x) ∧ (ds.length ≤ i → J.stop i H')
theorem ItF.toC {T : List (Addr × Option Str)} {J : It} {F H : Hp} (h : ItF T J F ds) : ItC T J F H ds := fun F' H' s => h F' H' s.sub s.fz s.tb
def EIF (X : Cx) (c : Cfg) (δ : List Sd) (tg iter : Expr) (ds : List D) : Prop := ∀ F H σ R, Sta c F H σ δ → (∀ J F' H', Stp c.T [] F H F' H' → ItF c.T J F' ds → R J H') → tI X tg iter σ H R
def EIC (X : Cx) (c : Cfg) (δ : List Sd) (tg iter : Expr) (ds : List D) : Prop := ∀ F H σ R, Sta c F H σ δ → (∀ J F' H', Stp c.T [] F H F' H' → ItC c.T J F' H' ds → R J H') → tI X tg iter σ H R
theorem EIF.toC (h : EIF X c δ tg iter ds) : EIC X c δ tg iter ds := fun F H σ R S q => h F H σ R S fun J F' H' s k => q J F' H' s k.toC
theorem itl_c {T : List (Addr × Option Str)} {K : PySem.W.Frag} {F H : Hp} {r : Addr} {vs : List V} (e : H r = some (.lst vs)) (k : DvAll F vs ds) : ItC T (Itl K r) F H ds := fun F' H' s i => by
  have e' := s.ext _ _ e (by simp) (fun _ z => by cases z)
  have k' := s.dvs k
  refine ⟨fun x hx => ?_, fun hi => ⟨vs, SqL.of e', by rw [dvAll_len k]; exact hi⟩⟩
  obtain ⟨v, h1, h2⟩ := dvAll_get k' hx
  refine ⟨⟨vs, v, SqL.of e', h1⟩, fun u H'' hy => ?_⟩
  obtain ⟨z1, z2⟩ := hy
  subst z1
  have z := z2 vs (SqL.of e')
  rw [h1] at z
  cases z
  exact ⟨F', Stp.refl s.fz s.tb, h2⟩
theorem itl_f {T : List (Addr × Option Str)} {K : PySem.W.Frag} {F : Hp} {r : Addr} {vs : List V} (e : F r = some (.lst vs)) (k : DvAll F vs ds) : ItF T (Itl K r) F ds := fun F' H' hs hF hT i => by
  have e' := fz_sub hF _ _ (hs _ _ e)
  have k' := dvAll_sub hs k
  refine ⟨fun x hx => ?_, fun hi => ⟨vs, SqL.of e', by rw [dvAll_len k]; exact hi⟩⟩
  obtain ⟨v, h1, h2⟩ := dvAll_get k' hx
  refine ⟨⟨vs, v, SqL.of e', h1⟩, fun u H'' hy => ?_⟩
  obtain ⟨z1, z2⟩ := hy
  subst z1
  have z := z2 vs (SqL.of e')
  rw [h1] at z
  cases z
  exact ⟨F', Stp.refl hF hT, h2⟩
theorem itt_f {T : List (Addr × Option Str)} {K : PySem.W.Frag} {F : Hp} {r : Addr} {vs : List V} (e : Rd F r (.tup vs)) (k : DvAll F vs ds) : ItF T (Itt K r) F ds := fun F' H' hs hF hT i => by
  have e' : SqT K H' r vs := .inl (rd_sub (fz_sub hF) (rd_sub hs e))
  have k' := dvAll_sub hs k
  refine ⟨fun x hx => ?_, fun hi => ⟨vs, e', by rw [dvAll_len k]; exact hi⟩⟩
  obtain ⟨v, h1, h2⟩ := dvAll_get k' hx
  refine ⟨⟨vs, v, e', h1⟩, fun u H'' hy => ?_⟩
  obtain ⟨z1, z2⟩ := hy
  subst z1
  have z := z2 vs e'
  rw [h1] at z
  cases z
  exact ⟨F', Stp.refl hF hT, h2⟩
theorem ei_tup (h : ED X c δ iter (.tuple ds)) : EIF X c δ tg iter ds := fun F H σ R S q => by
  refine uI (pi_tup (sE iter)) ?_
  refine h F H σ _ S fun v F1 H1 s1 d1 => ?_
  obtain ⟨r, vs, rfl, e1, k1⟩ := dv_tup d1
  exact ⟨r, rfl, ⟨vs, .inl (rd_sub (fz_sub s1.fz) e1)⟩, q _ F1 H1 s1 (itt_f e1 k1)⟩
theorem ei_lst (h : ED X c δ iter (.list ds)) : EIF X c δ tg iter ds := fun F H σ R S q => by
  refine uI (pi_list (sE iter)) ?_
  refine h F H σ _ S fun v F1 H1 s1 d1 => ?_
  obtain ⟨r, vs, rfl, e1, k1⟩ := dv_lst d1
  exact ⟨r, rfl, ⟨vs, SqL.of (fz_sub s1.fz _ _ e1)⟩, q _ F1 H1 s1 (itl_f e1 k1)⟩
/-- a list of the def's own, walked by a comprehension -/
theorem eic_r (h : ER X c δ iter ds) : EIC X c δ tg iter ds := fun F H σ R S q => by
  refine uI (pi_list (sE iter)) ?_
  refine h F H σ _ S fun r vs F1 H1 s1 e1 k1 => ?_
  exact ⟨r, rfl, ⟨vs, SqL.of e1⟩, q _ F1 H1 s1 (itl_c e1 k1)⟩
/-- the numbers lo, lo + 1, .. -/
def rngD (lo : Int) (n : Nat) : List D := (List.range n).map fun i => .int (lo + (i : Nat))
theorem rngD_get {lo : Int} {n i : Nat} {x : D} (h : (rngD lo n)[i]? = some x) : i < n ∧ x = .int (lo + (i : Nat)) := by
  unfold rngD at h
  rw [List.getElem?_map] at h
  by_cases hi : i < n
  · rw [List.getElem?_range hi] at h
    exact ⟨hi, (Option.some.inj h).symm⟩
  · rw [List.getElem?_eq_none (by rw [List.length_range]; omega)] at h
    cases h
theorem itr_f {T : List (Addr × Option Str)} {F : Hp} {lo : Int} {n : Nat} : ItF T (Itr lo n) F (rngD lo n) := fun F' H' hs hF hT i => by
  refine ⟨fun x hx => ?_, fun hi => ?_⟩
  · obtain ⟨h1, h2⟩ := rngD_get hx
    refine ⟨h1, fun v H'' hy => ?_⟩
    obtain ⟨z1, z2⟩ := hy
    subst z1 z2 h2
    exact ⟨F', Stp.refl hF hT, .int _⟩
  · unfold rngD at hi
    rw [List.length_map, List.length_range] at hi
    exact hi
theorem ei_range1 (ha : ED X c δ a (.int i)) (hi : -(2 ^ 62) ≤ i ∧ i < 2 ^ 62) (hm : X.mg "range" = none) (hg : Gl X "range" := by rfl) (hs : starEach [a] X.env = [(false, eval a X.env)] := by rfl) (he : starEach (a :: []) X.env = (false, eval a X.env) :: starEach [] X.env := by rfl) :
    EIF X c δ tg (.Call (.Name "range" p) [a] [] pos) (rngD 0 i.toNat) := fun F H σ R S q => by
  refine uI (pi_range1 hg hm (pa_cons (sE a) pa_nil he) hs) ?_
  refine ha F H σ _ S fun v F1 H1 s1 d1 => ?_
  exact ⟨i, by rw [dv_int d1], hi.1, hi.2, q _ F1 H1 s1 itr_f⟩
theorem ei_range2 (ha : ED X c δ a (.int i)) (hb : ED X c δ b (.int j)) (hi : -(2 ^ 62) ≤ i ∧ i < 2 ^ 62) (hj : -(2 ^ 62) ≤ j ∧ j < 2 ^ 62) (hm : X.mg "range" = none) (hg : Gl X "range" := by rfl)
    (hs : starEach [a, b] X.env = [(false, eval a X.env), (false, eval b X.env)] := by rfl) (hs2 : starEach [b] X.env = [(false, eval b X.env)] := by rfl) (he : starEach (a :: [b]) X.env = (false, eval a X.env) :: starEach [b] X.env := by rfl) (he2 : starEach (b :: []) X.env = (false, eval b X.env) :: starEach [] X.env := by rfl) :
    EIF X c δ tg (.Call (.Name "range" p) [a, b] [] pos) (rngD i (j - i).toNat) := fun F H σ R S q => by
  refine uI (pi_range2 hg hm (pa_cons (sE a) (pa_cons (sE b) pa_nil he2) he) hs hs2) ?_
  refine ha F H σ _ S fun v F1 H1 s1 d1 => ?_
  refine hb F1 H1 σ _ (S.step s1) fun v2 F2 H2 s2 d2 => ?_
  exact ⟨i, j, by rw [dv_int d1, dv_int d2], ⟨hi.1, hi.2, hj.1, hj.2⟩, q _ F2 H2 (s1.trans s2) itr_f⟩

/-! ### comprehensions -/
def EPs (X : Cx) (c : Cfg) (δ : List Sd) (ifs : List Expr) (k : Bool) : Prop := ∀ F H σ Q, Sta c F H σ δ → (∀ F' H', Stp c.T [] F H F' H' → Q k H') → tPs X ifs σ H Q
theorem eps_nil : EPs X c δ [] true := fun F H σ Q S q => uPs pts_nil (q F H S.refl)
theorem eps_one (h : ET X c δ e k) : EPs X c δ [e] k := fun F H σ Q S q => uPs (pts_one (sT e)) (h F H σ _ S q)
def wipeD (δ : List Sd) : List Nat → List Sd
  | [] => δ
  | v :: vs => (wipeD δ vs).set v .un
theorem Sta.wipe {F H : Hp} {σ : L2.St} (S : Sta c F H σ δ) : ∀ vs : List Nat, Sta c F H (L2.wipe σ vs) (wipeD δ vs)
  | [] => S
  | v :: vs => (S.wipe vs).set v rfl True.intro
theorem wipe_get (σ : L2.St) : ∀ (vs : List Nat) (j : Nat), (L2.wipe σ vs)[j]? = if j ∈ vs then (σ[j]?).map (fun _ => none) else σ[j]?
  | [], j => by simp [L2.wipe]
  | v :: vs, j => by
    unfold L2.wipe
    by_cases hj : v = j
    · subst hj
      have e : v ∈ v :: vs := List.mem_cons_self
      rw [if_pos e]
      by_cases hl : v < σ.length
      · rw [List.getElem?_set_self (by rw [wipe_length]; exact hl), List.getElem?_eq_getElem hl]
        rfl
      · rw [List.getElem?_eq_none (by rw [List.length_set, wipe_length]; omega), List.getElem?_eq_none (by omega)]
        rfl
    · rw [List.getElem?_set_ne hj, wipe_get σ vs j]
      have : (j ∈ v :: vs) = (j ∈ vs) := by
        rw [List.mem_cons]
        exact propext ⟨fun z => z.resolve_left (fun w => hj w.symm), .inr⟩
      simp only [this]
theorem wipe_eq {σ σ2 : L2.St} {vs : List Nat} (hl : σ2.length = σ.length) (hk : ∀ j : Nat, j ∉ vs → σ2[j]? = (L2.wipe σ vs)[j]?) : L2.wipe σ2 vs = L2.wipe σ vs := by
  refine List.ext_getElem? fun j => ?_
  rw [wipe_get, wipe_get]
  by_cases hj : j ∈ vs
  · rw [if_pos hj, if_pos hj]
    by_cases h : j < σ.length
    · rw [List.getElem?_eq_getElem h, List.getElem?_eq_getElem (by rw [hl]; exact h)]
      rfl
    · rw [List.getElem?_eq_none (by omega), List.getElem?_eq_none (by omega)]
  · rw [if_neg hj, if_neg hj, hk j hj, wipe_get, if_neg hj]
/-- the block's context -/
abbrev Blk (X : Cx) (scope : Scope) (s : Shared) (H : Hp) (C : Addr) (cl : List (Str × Addr)) (fp : List Addr) : Cx := X.blk s H scope (compEnvC scope cl C X.env) fp
def bG (X : Cx) (scope : Scope) (tg : Expr) : TG := fun v σ H' Q => ∀ s H C cl fp, tG (Blk X scope s H C cl fp) tg v σ H' Q
def bP (X : Cx) (scope : Scope) (ifs : List Expr) : TT := fun σ H' Q => ∀ s H C cl fp, tPs (Blk X scope s H C cl fp) ifs σ H' Q
def bE (X : Cx) (scope : Scope) (e : Expr) : TE := fun σ H' Q => ∀ s H C cl fp, tE (Blk X scope s H C cl fp) e σ H' Q
theorem sbG {scope : Scope} : ∀ (s : Shared) (H : Hp) (C : Addr) (cl : List (Str × Addr)) (fp : List Addr), PG (X.blk s H scope (compEnvC scope cl C X.env) fp) tg (bG X scope tg) := fun s H C cl fp => ⟨fun pins s' _ _ _ u _ I r h => h s H C cl fp pins s' u I r⟩
theorem sbP {scope : Scope} : ∀ (s : Shared) (H : Hp) (C : Addr) (cl : List (Str × Addr)) (fp : List Addr), PTs (X.blk s H scope (compEnvC scope cl C X.env) fp) ifs (bP X scope ifs) := fun s H C cl fp => ⟨fun pins s' _ _ _ I h => h s H C cl fp pins s' I⟩
theorem sbE {scope : Scope} : ∀ (s : Shared) (H : Hp) (C : Addr) (cl : List (Str × Addr)) (fp : List Addr), PE (X.blk s H scope (compEnvC scope cl C X.env) fp) e (bE X scope e) := fun s H C cl fp => ⟨fun pins s' _ _ _ I h => h s H C cl fp pins s' I⟩
/-- what a comprehension makes: b keeps, f makes -/
def lcD (b : D → Bool) (f : D → D) (ds : List D) : List D := (ds.filter b).map f
/-- the reading of a comprehension -/
theorem lc_read {scope : Scope} {vs : List Nat} {b : D → Bool} {f : D → D} {δx : D → List Sd} (hi : EIC X c δ tg iter ds) (hz : ds.length ≤ sizeLine)
    (hg : ∀ x, x ∈ ds → ∀ s H C cl fp, EG (Blk X scope s H C cl fp) c (wipeD δ vs) tg x vs (δx x)) (ht : ∀ x, x ∈ ds → ∀ s H C cl fp, EPs (Blk X scope s H C cl fp) c (δx x) ifs (b x))
    (he : ∀ x, x ∈ ds → b x = true → ∀ s H C cl fp, ED (Blk X scope s H C cl fp) c (δx x) elt (f x)) {F H : Hp} {σ : L2.St} {Q : VK} (S : Sta c F H σ δ)
    (q : ∀ p vs F' H', Stp c.T [] F H F' H' → H p = none → F' p = none → H' p = some (.lst vs) → DvAll F' vs (lcD b f ds) → Q (.ref p) H') : tLc (tI X tg iter) (bG X scope tg) (bP X scope ifs) (bE X scope elt) vs σ H Q := by
  refine hi F H σ _ S fun J F1 H1 s1 w1 => ?_
  intro Dn hD
  have hDF := fresh_F s1 hD
  have sD : Stp c.T [] F1 H1 F1 (upd H1 Dn (.lst [])) := Stp.newO s1.fz s1.tb hD
  refine ⟨fun i m H' => m = ds.length - i ∧ i ≤ ds.length ∧ ∃ F' acc, Stp c.T [] F1 H1 F' H' ∧ F' Dn = none ∧ H' Dn = some (.lst acc) ∧ DvAll F' acc (lcD b f (ds.take i)),
    ⟨ds.length, by simp, Nat.zero_le _, F1, [], sD, hDF, upd_same, .nil⟩, ?_⟩
  rintro i m H2 ⟨rfl, hi2, F2, acc, s2, f2, e2, k2⟩
  obtain ⟨wg, ws⟩ := w1 F2 H2 s2 i
  by_cases hlt : i < ds.length
  · refine .inr ?_
    have hx : ds[i]? = some ds[i] := List.getElem?_eq_getElem hlt
    have hmem : ds[i] ∈ ds := List.getElem_mem hlt
    obtain ⟨go, wy⟩ := wg _ hx
    have htk : ds.take (i + 1) = ds.take i ++ [ds[i]] := (List.take_append_getElem hlt).symm
    have lacc : acc.length ≤ i := by
      rw [dvAll_len k2]
      unfold lcD
      rw [List.length_map]
      exact Nat.le_trans (List.length_filter_le _ _) (by rw [List.length_take]; omega)
    refine ⟨go, fun H' => ∃ F' acc', Stp c.T [] F1 H1 F' H' ∧ F' Dn = none ∧ H' Dn = some (.lst acc') ∧ DvAll F' acc' (lcD b f (ds.take (i + 1))), fun H' ⟨F', acc', a1, a2, a3, a4⟩ => ⟨ds.length - (i + 1), by omega, rfl, hlt, F', acc', a1, a2, a3, a4⟩, fun v H3 hy => ?_⟩
    obtain ⟨F3, s3, d3⟩ := wy v H3 hy
    have S3 : Sta c F3 H3 (L2.wipe σ vs) (wipeD δ vs) := (S.step (s1.trans (s2.trans s3))).wipe vs
    intro s' Hs C cl fp
    refine hg _ hmem s' Hs C cl fp F3 H3 _ v _ S3 d3 fun σ4 S4 l4 k4 => ⟨wipe_eq (l4.trans (wipe_length σ vs)) k4, ?_⟩
    intro s'' Hs2 C2 cl2 fp2
    refine ht _ hmem s'' Hs2 C2 cl2 fp2 F3 H3 σ4 _ S4 fun F5 H5 s5 => ?_
    have s15 := (s2.trans s3).trans s5
    have e5 : H5 Dn = some (.lst acc) := s5.ext _ _ (s3.ext _ _ e2 (by simp) (fun _ z => by cases z)) (by simp) (fun _ z => by cases z)
    have f5 : F5 Dn = none := (s3.trans s5).free f2 e2
    cases hb : b ds[i] with
    | false =>
      refine iteF ⟨F5, acc, s15, f5, e5, ?_⟩
      have : lcD b f (ds.take (i + 1)) = lcD b f (ds.take i) := by
        unfold lcD
        rw [htk, List.filter_append, List.filter_cons_of_neg (by rw [hb]; exact Bool.false_ne_true), List.filter_nil, List.append_nil]
      rw [this]
      exact (s3.trans s5).dvs k2
    | true =>
      refine iteT ?_
      intro s3' Hs3 C3 cl3 fp3
      refine he _ hmem hb s3' Hs3 C3 cl3 fp3 F5 H5 σ4 _ (S4.step s5) fun y F6 H6 s6 d6 => ?_
      have e6 : H6 Dn = some (.lst acc) := s6.ext _ _ e5 (by simp) (fun _ z => by cases z)
      have f6 : F6 Dn = none := s6.free f5 e5
      have s16 := s15.trans s6
      refine ⟨acc, e6, by omega, F6, acc ++ [y], ⟨s16.sub, fz_upd s16.fz f6, fun a o z n m => ?_, fun a z => ?_, s16.new, tb_upd s16.tb (fun ps z => by rw [e6] at z; cases z) (.inr fun d q z => by rw [e6] at z; unfold LamX.CodeO at z; cases z)⟩, f6, upd_same, ?_⟩
      · rw [upd_ne (ne_of_none z hD)]
        exact s16.ext a o z n m
      · by_cases ha : a = Dn
        · rw [ha, upd_same] at z; cases z
        · rw [upd_ne ha] at z; exact s16.dom a z
      · have : lcD b f (ds.take (i + 1)) = lcD b f (ds.take i) ++ [f ds[i]] := by
          unfold lcD
          rw [htk, List.filter_append, List.filter_cons_of_pos hb, List.filter_nil, List.map_append]
          rfl
        rw [this]
        exact dvAll_app (((s3.trans s5).trans s6).dvs k2) (.cons d6 .nil)
  · have : i = ds.length := by omega
    subst this
    refine .inl ⟨ws (Nat.le_refl _), q Dn acc F2 H2 (s1.trans s2) (s1.dom _ hD) f2 e2 ?_⟩
    rw [List.take_length] at k2
    exact k2
theorem el_lc {scope : Scope} {own : List (Str × Nat)} {b : D → Bool} {f : D → D} {δx : D → List Sd} (ok : BlkOk X.N X.env.scope scope own) (hc : X.calm = true) (hN : X.N.Nodup) (hi : EIC X c δ tg iter ds) (hz : ds.length ≤ sizeLine)
    (hg : ∀ x, x ∈ ds → ∀ s H C cl fp, EG (Blk X scope s H C cl fp) c (wipeD δ (own.map (·.2))) tg x (own.map (·.2)) (δx x)) (ht : ∀ x, x ∈ ds → ∀ s H C cl fp, EPs (Blk X scope s H C cl fp) c (δx x) ifs (b x))
    (he : ∀ x, x ∈ ds → b x = true → ∀ s H C cl fp, ED (Blk X scope s H C cl fp) c (δx x) elt (f x)) (hs : ∀ x, foldedSetIterable iter X.env x = pure x := by intro _; rfl) :
    EL X c δ (.ListComp elt [⟨tg, iter, ifs, 0⟩] scope pos) (lcD b f ds) := fun F H σ Q S q =>
  uE (pe_lc hc hN (sI tg iter) ok sbG sbP sbE hs) (lc_read hi hz hg ht he S q)
end
end Fs

set_option Elab.async false
set_option linter.all false
set_option maxRecDepth 100000
set_option maxHeartbeats 4000000
/-! Firesseen: statements over data, defs and their promises. -/
namespace Fs
open PySem PySem.Spec L2

/-! ### promises -/
inductive Res where
  | d (x : D)
  | l (ds : List D)
  | k (kvs : List (Int × D))
  | t (kvs : List (List Int × D))
  | z (ds : List D)
  | exc (n : Str)
def Post (H0 F H : Hp) (v : V) : Res → Prop
  | .d x => Dv F v x
  | .l ds => ∃ p vs, v = .ref p ∧ H0 p = none ∧ F p = none ∧ H p = some (.lst vs) ∧ DvAll F vs ds
  | .k kvs => ∃ p kv, v = .ref p ∧ H0 p = none ∧ F p = none ∧ H p = some (.dK kv) ∧ KOk F kv kvs
  | .t kvs => ∃ p kv, v = .ref p ∧ H0 p = none ∧ F p = none ∧ H p = some (.dT kv) ∧ TOk F kv kvs
  | .z ds => DvZ F v ds
  | .exc _ => False
/-- data in, by R a result out (or the error of the class CB that names n) -/
def spD (T : List (Addr × Option Str)) (CB : Addr) (R : List D → Res → Prop) : Sp := fun vs H Q E => ∃ F ds r, Tb T H ∧ Fz F H ∧ DvAll F vs ds ∧ R ds r ∧
  (∀ v F' H', Stp T [] F H F' H' → Post H F' H' v r → Q v H') ∧
  (∀ n, r = .exc n → ∀ d F' H', Stp T [] F H F' H' → H' d = some (.xd [(("name" : Str), V.str n)]) → E (.ref CB) (some d) H')

/-! ### defs as they stand -/
def FunP (K : PySem.W.Frag) (x : Str) (st : Stmt) (f : Addr) (fd : FuncData) : Prop := FunD K x x (defArgs st) (defBody st) (defScope st) [] [] f fd
structure Cal (P : Program) (w : World) (K : PySem.W.Frag) (mg : Str → Option Value) (base : Heap) (CX : CXT) (k : Nat) (x : Str) (ps : List Str) (sp : Sp) : Prop where
  ex : ∃ f fd, mg x = some (.ref f) ∧ PySem.W.keepIn K (.ref f) = true ∧ Binds K fd ps [] ∧ FnOk P w K mg base CX k f fd ps sp
structure CalN (P : Program) (w : World) (K : PySem.W.Frag) (mg : Str → Option Value) (base : Heap) (CX : CXT) (k : Nat) (x : Str) (n : Nat) (ks ps : List Str) (sp : Sp) : Prop where
  ex : ∃ f fd, mg x = some (.ref f) ∧ PySem.W.keepIn K (.ref f) = true ∧ KBn K fd ps n ks (fun us ws => us ++ ws) (fun vs zs => vs ++ zs) ∧ FnOk P w K mg base CX k f fd ps sp
section
variable {X : Cx} {c : Cfg} {δ δ' δ2 : List Sd} {e a b tg iter elt : Expr} {es ifs : List Expr} {pos p : Pos} {d : D} {ds : List D} {i j : Int} {k l : Bool} {is js : List Nat} {x : Str} {n : Nat} {ps ks : List Str} {CB : Addr} {R : List D → Res → Prop}
/-! ### calls -/
theorem ed_call {CX : CXT} (C : Cal X.prog X.w X.K X.mg X.base CX n x ps (spD c.T CB R)) (hx : Passes CX X E0) (hr : Room n X.A) (ha : EA X c δ (e :: es) ds) (hR : R ds (.d d)) (hg : Gl X x := by rfl) (hdb : (x == ("__debug__" : Str)) = false := by decide)
    (he : starEach (e :: es) X.env = (false, eval e X.env) :: starEach es X.env := by rfl) (hpl : (backTo pos (starEach es X.env)).any (·.1) = false := by rfl) : ED X c δ (.Call (.Name x p) (e :: es) [] pos) d := fun F H σ Q S q => by
  obtain ⟨f, fd, h1, h2, h3, h4⟩ := C.ex
  refine uE (pe_call h4 hr hg h1 h2 h3 .nil hx (sA (e :: es)) hdb he hpl) ?_
  refine ha F H σ _ S fun vs F1 H1 s1 d1 => ?_
  rw [List.append_nil]
  exact ⟨F1, ds, _, s1.tb, s1.fz, d1, hR, fun v F2 H2 s2 d2 => q v F2 H2 (s1.trans s2) d2, fun _ z => by cases z⟩
theorem el_call {CX : CXT} {xs : List D} (C : Cal X.prog X.w X.K X.mg X.base CX n x ps (spD c.T CB R)) (hx : Passes CX X E0) (hr : Room n X.A) (ha : EA X c δ (e :: es) ds) (hR : R ds (.l xs)) (hg : Gl X x := by rfl) (hdb : (x == ("__debug__" : Str)) = false := by decide)
    (he : starEach (e :: es) X.env = (false, eval e X.env) :: starEach es X.env := by rfl) (hpl : (backTo pos (starEach es X.env)).any (·.1) = false := by rfl) : EL X c δ (.Call (.Name x p) (e :: es) [] pos) xs := fun F H σ Q S q => by
  obtain ⟨f, fd, h1, h2, h3, h4⟩ := C.ex
  refine uE (pe_call h4 hr hg h1 h2 h3 .nil hx (sA (e :: es)) hdb he hpl) ?_
  refine ha F H σ _ S fun vs F1 H1 s1 d1 => ?_
  rw [List.append_nil]
  exact ⟨F1, ds, _, s1.tb, s1.fz, d1, hR, fun v F2 H2 s2 ⟨r, us, e1, e2, e3, e4, e5⟩ => by
    subst e1
    exact q r us F2 H2 (s1.trans s2) (s1.dom r e2) e3 e4 e5, fun _ z => by cases z⟩
theorem ek_args {kws : List Keyword} : True := trivial
/-- keywords' values -/
def EK (X : Cx) (c : Cfg) (δ : List Sd) (kws : List Keyword) (ds : List D) : Prop := ∃ t, PK X kws t ∧ ∀ F H σ Q, Sta c F H σ δ → (∀ vs F' H', Stp c.T [] F H F' H' → DvAll F' vs ds → Q vs H') → t σ H Q
theorem ek_nil : EK X c δ [] [] := ⟨_, pk_nil, fun F H σ Q S q => q _ F H S.refl .nil⟩
theorem ek_cons {nm : Option Str} {kpos : Pos} {kws : List Keyword} (ha : ED X c δ e d) (hr : EK X c δ kws ds) : EK X c δ (⟨nm, e, kpos⟩ :: kws) (d :: ds) := by
  obtain ⟨t, pt, ht⟩ := hr
  refine ⟨_, pk_cons (sE e) pt, fun F H σ Q S q => ?_⟩
  refine ha F H σ _ S fun v F1 H1 s1 d1 => ?_
  refine ht F1 H1 σ _ (S.step s1) fun vs F2 H2 s2 d2 => ?_
  exact q _ F2 H2 (s1.trans s2) (.cons (s2.dv d1) d2)
theorem ed_callN {CX : CXT} {m : Nat} {kws : List Keyword} {xs : List D} (C : CalN X.prog X.w X.K X.mg X.base CX n x m ks ps (spD c.T CB R)) (hx : Passes CX X E0) (hr : Room n X.A) (ha : EA X c δ (e :: es) ds) (hk : EK X c δ kws xs) (hm : ds.length = m) (hm2 : xs.length = ks.length) (hR : R (ds ++ xs) (.d d)) (hg : Gl X x := by rfl)
    (hall : (backToKw pos (keywordEach kws X.env)).all (·.1.isSome) = true := by rfl) (hks : (backToKw pos (keywordEach kws X.env)).filterMap (·.1) = ks := by rfl)
    (hdb : (x == ("__debug__" : Str)) = false := by decide) (he : starEach (e :: es) X.env = (false, eval e X.env) :: starEach es X.env := by rfl)
    (hpl : ((backTo pos (starEach (e :: es) X.env)).any (·.1) || (backToKw pos (keywordEach kws X.env)).any (·.1.isNone)) = false := by rfl) : ED X c δ (.Call (.Name x p) (e :: es) kws pos) d := fun F H σ Q S q => by
  obtain ⟨f, fd, h1, h2, h3, h4⟩ := C.ex
  obtain ⟨t, pt, ht⟩ := hk
  refine uE (pe_callN h4 hr hg h1 h2 h3 hx (sA (e :: es)) pt hall hks hdb he hpl) ?_
  refine ha F H σ _ S fun vs F1 H1 s1 d1 => ?_
  refine ht F1 H1 σ _ (S.step s1) fun ws F2 H2 s2 d2 => ?_
  have s := s1.trans s2
  exact ⟨by rw [dvAll_len d1]; exact hm, by rw [dvAll_len d2]; exact hm2, F2, ds ++ xs, _, s.tb, s.fz, dvAll_app (s2.dvs d1) d2, hR, fun v F3 H3 s3 d3 => q v F3 H3 (s.trans s3) d3, fun _ z => by cases z⟩

/-! ### blocks -/
def WS (X : Cx) (c : Cfg) (δ : List Sd) (sts : List Stmt) (Dn : Ends) : Prop := ∀ F H σ, Sta c F H σ δ → tSs X sts Dn σ H
def W1 (X : Cx) (c : Cfg) (δ : List Sd) (st : Stmt) (Dn : Ends) : Prop := ∀ F H σ, Sta c F H σ δ → tS X st Dn σ H
abbrev nxs (X : Cx) (rest : List Stmt) (Dn : Ends) : Ends := { Dn with nx := fun σ H => tSs X rest Dn σ H }
/-- Dn is reached with δ -/
def Nx (c : Cfg) (δ : List Sd) (Q : L2.St → Hp → Prop) : Prop := ∀ F H σ, Sta c F H σ δ → Q σ H
/-- the result r is what is wanted -/
def Ret (c : Cfg) (Q : VK) (r : Res) : Prop := ∀ v F H, Stp c.T c.Mx c.F0 c.H0 F H → Post c.H0 F H v r → Q v H
variable {Dn : Ends} {st : Stmt} {rest body orelse : List Stmt}
theorem ws_nil (h : Nx c δ Dn.nx) : WS X c δ [] Dn := fun F H σ S => uSs pss_nil (h F H σ S)
theorem ws_cons (h : W1 X c δ st (nxs X rest Dn)) : WS X c δ (st :: rest) Dn := fun F H σ S => uSs (pss_cons (sS st) (sSs rest)) (h F H σ S)
theorem ws_one (h : W1 X c δ st Dn) : WS X c δ [st] Dn := fun F H σ S => uSs (pss_one (sS st)) (h F H σ S)
theorem WS.nx (h : WS X c δ rest Dn) : Nx c δ (nxs X rest Dn).nx := h
/-- the slots' facts may be forgotten -/
theorem WS.weak (h : WS X c δ' rest Dn) (hl : δ'.length = δ.length) (hw : ∀ (i : Nat) y, δ'[i]? = some y → y = .un ∨ δ[i]? = some y) : WS X c δ rest Dn := fun F H σ S => h F H σ (S.weak hl hw)
theorem W1.weak (h : W1 X c δ' st Dn) (hl : δ'.length = δ.length) (hw : ∀ (i : Nat) y, δ'[i]? = some y → y = .un ∨ δ[i]? = some y) : W1 X c δ st Dn := fun F H σ S => h F H σ (S.weak hl hw)
theorem Nx.weak {Q : L2.St → Hp → Prop} (h : Nx c δ' Q) (hl : δ'.length = δ.length) (hw : ∀ (i : Nat) y, δ'[i]? = some y → y = .un ∨ δ[i]? = some y) : Nx c δ Q := fun F H σ S => h F H σ (S.weak hl hw)
theorem Nx.pin {Q : L2.St → Hp → Prop} {Fp : Hp} (h : Nx c δ Q) (hs : Sub c.Fp Fp) : Nx (c.pin Fp) δ Q := fun F H σ S => h F H σ (S.unpin hs)
theorem w_pass : Nx c δ Dn.nx → W1 X c δ (.Pass pos) Dn := fun h F H σ S => uS ps_pass (h F H σ S)
theorem w_break : Nx c δ Dn.bk → W1 X c δ (.Break pos) Dn := fun h F H σ S => uS ps_break (h F H σ S)
theorem w_continue : Nx c δ Dn.ct → W1 X c δ (.Continue pos) Dn := fun h F H σ S => uS ps_continue (h F H σ S)
theorem w_ret (he : ED X c δ e d) (h : Ret c Dn.rt (.d d)) : W1 X c δ (.Return (some e) pos) Dn := fun F H σ S => by
  refine uS (ps_ret (sE e)) ?_
  exact he F H σ _ S fun v F1 H1 s1 d1 => h v F1 H1 (S.base.trans s1.wide) d1
theorem w_retN (h : Ret c Dn.rt (.d .none)) : W1 X c δ (.Return none pos) Dn := fun F H σ S => uS ps_retN (h .non F H S.base .non)
theorem w_retL (he : EL X c δ e ds) (h : Ret c Dn.rt (.l ds)) : W1 X c δ (.Return (some e) pos) Dn := fun F H σ S => by
  refine uS (ps_ret (sE e)) ?_
  exact he F H σ _ S fun p vs F1 H1 s1 e1 e2 e3 e4 => h _ F1 H1 (S.base.trans s1.wide) ⟨p, vs, rfl, S.base.dom _ e1, e2, e3, e4⟩
/-- a list, a dict of the def's own is returned -/
theorem w_retO (m : Nat) (hδ : δ[m]? = some (.l ds)) (hM : c.Mx = []) (h : Ret c Dn.rt (.l ds)) (hN : X.N[m]? = some x := by rfl) (hv : Vis X.env.scope x := by first | exact Or.inl rfl | exact Or.inr (Or.inl rfl) | exact Or.inr (Or.inr rfl)) (hd : (x == ("__debug__" : Str)) = false := by decide)
    (hcd : (x == ("__classdict__" : Str)) = false := by decide) : W1 X c δ (.Return (some (.Name x p)) pos) Dn := fun F H σ S => by
  obtain ⟨r, vs, e1, e2, e3, e4, e5⟩ := S.lst hδ
  refine uS (ps_ret (pe_var hN hv hd hcd)) ⟨_, e1, h _ F H S.base ⟨r, vs, rfl, ?_, e2, e4, e5⟩⟩
  rcases e3 with z | z
  · exact z
  · rw [hM] at z; cases z
theorem w_retK (m : Nat) {kvs : List (Int × D)} (hδ : δ[m]? = some (.k kvs)) (hM : c.Mx = []) (h : Ret c Dn.rt (.k kvs)) (hN : X.N[m]? = some x := by rfl) (hv : Vis X.env.scope x := by first | exact Or.inl rfl | exact Or.inr (Or.inl rfl) | exact Or.inr (Or.inr rfl)) (hd : (x == ("__debug__" : Str)) = false := by decide)
    (hcd : (x == ("__classdict__" : Str)) = false := by decide) : W1 X c δ (.Return (some (.Name x p)) pos) Dn := fun F H σ S => by
  obtain ⟨r, vs, e1, e2, e3, e4, e5⟩ := S.dk hδ
  refine uS (ps_ret (pe_var hN hv hd hcd)) ⟨_, e1, h _ F H S.base ⟨r, vs, rfl, ?_, e2, e4, e5⟩⟩
  rcases e3 with z | z
  · exact z
  · rw [hM] at z; cases z
theorem w_if (ht : ET X c δ e k) (h1 : k = true → WS X c δ body Dn) (h2 : k = false → WS X c δ orelse Dn) : W1 X c δ (.If e body orelse pos) Dn := fun F H σ S => by
  refine uS (ps_if (sT e) (sSs body) (sSs orelse)) ?_
  refine ht F H σ _ S fun F1 H1 s1 => ?_
  cases k with
  | true => exact iteT (h1 rfl F1 H1 σ (S.step s1))
  | false => exact iteF (h2 rfl F1 H1 σ (S.step s1))
theorem w_expr (he : ED X c δ e d) (h : Nx c δ Dn.nx) (hs : swapsWith e none pos.line X.env = pure false := by rfl) : W1 X c δ (.Expr e pos) Dn := fun F H σ S => by
  refine uS (ps_expr (sE e) hs) ?_
  exact he F H σ _ S fun v F1 H1 s1 _ => h F1 H1 σ (S.step s1)
/-- name = data -/
theorem w_set (m : Nat) {p' : Pos} (hN : X.N.Nodup) (he : ED X c δ e d) (h : Nx c (δ.set m (.d d)) Dn.nx) (hi : X.N[m]? = some x := by rfl) (hx : Loc X.env.scope x := by first | exact Or.inl rfl | exact Or.inr rfl) (hs : swapsWith e (some (.Name x p')) pos.line X.env = pure false := by rfl)
    (hf : X.fn x = true ∨ X.env.scope.names.lookup x = some .local := by first | exact .inl rfl | exact .inr rfl) : W1 X c δ (.Assign [.Name x p'] e pos) Dn := fun F H σ S => by
  refine uS (ps_set hN hi hx (sE e) hs hf) ?_
  exact he F H σ _ S fun v F1 H1 s1 d1 => h F1 H1 _ ((S.step s1).set m rfl ⟨v, rfl, d1⟩)
/-- name = a new list -/
theorem w_setL (m : Nat) {p' : Pos} (hN : X.N.Nodup) (he : EL X c δ e ds) (h : Nx c (δ.set m (.l ds)) Dn.nx) (hi : X.N[m]? = some x := by rfl) (hx : Loc X.env.scope x := by first | exact Or.inl rfl | exact Or.inr rfl) (hs : swapsWith e (some (.Name x p')) pos.line X.env = pure false := by rfl)
    (hf : X.fn x = true ∨ X.env.scope.names.lookup x = some .local := by first | exact .inl rfl | exact .inr rfl) : W1 X c δ (.Assign [.Name x p'] e pos) Dn := fun F H σ S => by
  refine uS (ps_set hN hi hx (sE e) hs hf) ?_
  refine he F H σ _ S fun r vs F1 H1 s1 e1 e2 e3 e4 => h F1 H1 _ ((S.step s1).setO m e2 (S.base.dom _ e1) rfl ⟨vs, e3, e4⟩ fun j y hj ey oy z => ?_)
  exact S.fresh e1 j y ey oy z
/-- name = [.. for ..] on its line -/
theorem w_setLc (m : Nat) {p' : Pos} {scope : Scope} {own : List (Str × Nat)} {kb : D → Bool} {f : D → D} {δx : D → List Sd} {spos : Pos} (ok : BlkOk X.N X.env.scope scope own) (hN : X.N.Nodup) (hc : X.calm = true) (hi : EIC X c δ tg iter ds) (hz : ds.length ≤ sizeLine)
    (hg : ∀ x, x ∈ ds → ∀ s H C cl fp, EG (Blk X scope s H C cl fp) c (wipeD δ (own.map (·.2))) tg x (own.map (·.2)) (δx x)) (ht : ∀ x, x ∈ ds → ∀ s H C cl fp, EPs (Blk X scope s H C cl fp) c (δx x) ifs (kb x))
    (he : ∀ x, x ∈ ds → kb x = true → ∀ s H C cl fp, ED (Blk X scope s H C cl fp) c (δx x) elt (f x)) (h : Nx c (δ.set m (.l (lcD kb f ds))) Dn.nx)
    (hy : X.N[m]? = some x := by rfl) (hyl : X.env.scope.names.lookup x = some .local := by rfl) (hsw : swapsWith (.ListComp elt [⟨tg, iter, ifs, 0⟩] scope pos) (some (.Name x p')) spos.line X.env = pure true := by exact sw_true rfl rfl rfl (by decide +kernel))
    (hs : ∀ x, foldedSetIterable iter X.env x = pure x := by intro _; rfl) : W1 X c δ (.Assign [.Name x p'] (.ListComp elt [⟨tg, iter, ifs, 0⟩] scope pos) spos) Dn := fun F H σ S => by
  refine uS (ps_setLc hc hN hy hyl hsw (sI tg iter) ok sbG sbP sbE hs) ?_
  refine lc_read hi hz hg ht he S fun r vs F1 H1 s1 e1 e2 e3 e4 => h F1 H1 _ ((S.step s1).setO m e2 (S.base.dom _ e1) rfl ⟨vs, e3, e4⟩ fun j y hj ey oy z => ?_)
  exact S.fresh e1 j y ey oy z
/-- a list of the def's own is given to another name, the first is forgotten -/
theorem w_move (m m2 : Nat) {y : Str} {p' : Pos} (hN : X.N.Nodup) (hδ : δ[m2]? = some (.l ds)) (hne : m ≠ m2) (h : Nx c ((δ.set m2 .un).set m (.l ds)) Dn.nx) (hM : c.Mx = []) (hi : X.N[m]? = some x := by rfl) (hx : Loc X.env.scope x := by first | exact Or.inl rfl | exact Or.inr rfl)
    (hN2 : X.N[m2]? = some y := by rfl) (hv : Vis X.env.scope y := by first | exact Or.inl rfl | exact Or.inr (Or.inl rfl) | exact Or.inr (Or.inr rfl)) (hd : (y == ("__debug__" : Str)) = false := by decide) (hcd : (y == ("__classdict__" : Str)) = false := by decide)
    (hs : swapsWith (.Name y p) (some (.Name x p')) pos.line X.env = pure false := by rfl) (hf : X.fn x = true ∨ X.env.scope.names.lookup x = some .local := by first | exact .inl rfl | exact .inr rfl) : W1 X c δ (.Assign [.Name x p'] (.Name y p) pos) Dn := fun F H σ S => by
  obtain ⟨r, vs, e1, e2, e3, e4, e5⟩ := S.lst hδ
  refine uS (ps_set hN hi hx (pe_var hN2 hv hd hcd) hs hf) ⟨_, e1, ?_⟩
  have S1 : Sta c F H σ (δ.set m2 .un) := S.weak (List.length_set) fun i y e => by
    by_cases z : m2 = i
    · subst z
      rw [List.getElem?_set_self (List.getElem?_eq_some_iff.mp hδ).1] at e
      exact .inl (Option.some.inj e).symm
    · rw [List.getElem?_set_ne z] at e
      exact .inr e
  have h0 : c.H0 r = none := by
    rcases e3 with z | z
    · exact z
    · rw [hM] at z; cases z
  refine h F H _ (S1.setO m e2 h0 rfl ⟨vs, e4, e5⟩ fun j y hj ey oy z => ?_)
  by_cases hj2 : m2 = j
  · subst hj2
    rw [List.getElem?_set_self (List.getElem?_eq_some_iff.mp hδ).1] at ey
    cases ey
    cases oy
  · rw [List.getElem?_set_ne hj2] at ey
    exact S.sl.sep m2 j _ _ r hj2 hδ ey rfl oy e1 z
/-- from here on the list in slot m never changes: it is data -/
theorem ws_freeze (m : Nat) (hδ : δ[m]? = some (.l ds)) (hM : c.Mx = []) (h : WS X c (δ.set m (.d (.list ds))) rest Dn) : WS X c δ rest Dn := fun F H σ S => by
  obtain ⟨r, vs, e1, e2, e3, e4, e5⟩ := S.lst hδ
  have hsub : Sub F (upd F r (.lst vs)) := Sub.new e2
  have h0 : c.H0 r = none := by
    rcases e3 with z | z
    · exact z
    · rw [hM] at z; cases z
  have hml : m < δ.length := (List.getElem?_eq_some_iff.mp hδ).1
  refine h (upd F r (.lst vs)) H σ ⟨⟨S.base.sub.trans hsub, fun a o z => ?_, S.base.ext, S.base.dom, fun a o z => ?_, S.base.tb⟩, S.pin.trans hsub, by rw [List.length_set]; exact S.sl.len, fun i y ey => ?_, fun i j x y q hij e1' e2' o1 o2 s1 => ?_⟩
  · by_cases ha : a = r
    · subst ha
      rw [upd_same] at z
      cases z
      exact ⟨e4, fun _ z => by cases z⟩
    · rw [upd_ne ha] at z
      exact S.fz a o z
  · by_cases ha : a = r
    · exact .inr (by rw [ha]; exact h0)
    · rw [upd_ne ha] at z
      exact S.base.new a o z
  · by_cases hi : m = i
    · subst hi
      rw [List.getElem?_set_self hml] at ey
      cases ey
      exact ⟨_, e1, .lst upd_same (dvAll_sub hsub e5)⟩
    · rw [List.getElem?_set_ne hi] at ey
      have old := S.sl.ok i y ey
      have oth : ∀ q, σ[i]? = some (some (.ref q)) → y.own = true → q ≠ r := fun q z o w => by
        rw [w] at z
        exact S.sl.sep m i _ y r hi hδ ey rfl o e1 z
      cases y with
      | un => trivial
      | d x => obtain ⟨v, a1, a2⟩ := old; exact ⟨v, a1, dv_sub hsub a2⟩
      | v x => exact old
      | l xs =>
        obtain ⟨q, a1, a2, a3, us, a4, a5⟩ := old
        exact ⟨q, a1, by rw [upd_ne (oth q a1 rfl)]; exact a2, a3, us, a4, dvAll_sub hsub a5⟩
      | k xs =>
        obtain ⟨q, a1, a2, a3, us, a4, a5⟩ := old
        exact ⟨q, a1, by rw [upd_ne (oth q a1 rfl)]; exact a2, a3, us, a4, paired_map (fun _ _ z => ⟨z.1, dv_sub hsub z.2⟩) a5⟩
      | t xs =>
        obtain ⟨q, a1, a2, a3, us, a4, a5⟩ := old
        exact ⟨q, a1, by rw [upd_ne (oth q a1 rfl)]; exact a2, a3, us, a4, paired_map (fun _ _ z => ⟨z.1, dv_sub hsub z.2⟩) a5⟩
      | m a0 xs =>
        obtain ⟨q, a1, a2, a3, e0, us, a4, a5⟩ := old
        exact ⟨q, a1, by rw [upd_ne (oth q a1 rfl)]; exact a2, a3, e0, us, a4, dvAll_sub hsub a5⟩
      | z xs =>
        obtain ⟨v, a1, a2⟩ := old
        exact ⟨v, a1, a2.sub hsub⟩
      | mt a0 xs =>
        obtain ⟨q, a1, a2, a3, e0, us, a4, a5⟩ := old
        exact ⟨q, a1, by rw [upd_ne (oth q a1 rfl)]; exact a2, a3, e0, us, a4, paired_map (fun _ _ z => ⟨z.1, dv_sub hsub z.2⟩) a5⟩
  · have old : ∀ (i : Nat) (x : Sd), (δ.set m (.d (.list ds)))[i]? = some x → x.own = true → δ[i]? = some x := fun i x e o => by
      by_cases hi : m = i
      · subst hi
        rw [List.getElem?_set_self hml] at e
        cases e
        cases o
      · rw [List.getElem?_set_ne hi] at e
        exact e
    exact S.sl.sep i j x y q hij (old i x e1' o1) (old j y e2' o2) o1 o2 s1
/-! ### a list of the def's own changes -/
theorem tyL {F H : Hp} {r : Addr} {vs : List V} (e : H r = some (.lst vs)) : tyV X.K "list" (.ref r) H := .inl ⟨rfl, vs, SqL.of e⟩
theorem w_append (m : Nat) {ap cp : Pos} (hδ : δ[m]? = some (.l ds)) (ha : ED X c δ e d) (hl : ds.length < sizeLine) (h : Nx c (δ.set m (.l (ds ++ [d]))) Dn.nx)
    (hN : X.N[m]? = some x := by rfl) (hv : Vis X.env.scope x := by first | exact Or.inl rfl | exact Or.inr (Or.inl rfl) | exact Or.inr (Or.inr rfl)) (hd : (x == ("__debug__" : Str)) = false := by decide) (hcd : (x == ("__classdict__" : Str)) = false := by decide)
    (hbase : attributeBase (.Name x p) "append" X.env (eval (.Name x p) X.env) = eval (.Name x p) X.env := by rfl)
    (hfew : ((backTo cp (starEach (e :: []) X.env)).all (fun x => !x.1) && (backToKw cp (keywordEach [] X.env)).all (fun x => x.1.isSome) && decide ((e :: ([] : List Expr)).length + ([] : List Keyword).length + (if ([] : List Keyword).isEmpty then 0 else 1) < 30)) = true := by rfl)
    (hline : (ap.endLine == cp.line) = true := by rfl) (he : starEach (e :: []) X.env = (false, eval e X.env) :: starEach [] X.env := by rfl) (hpl : (backTo cp (starEach [] X.env)).any (·.1) = false := by rfl)
    (hs : swapsWith (.Call (.Attribute (.Name x p) "append" ap) [e] [] cp) none pos.line X.env = pure false := by rfl) : W1 X c δ (.Expr (.Call (.Attribute (.Name x p) "append" ap) [e] [] cp) pos) Dn := fun F H σ S => by
  obtain ⟨r, vs, e1, e2, e3, e4, e5⟩ := S.lst hδ
  refine uS (ps_expr (pe_bm PySem.F.plainAttrs_list PySem.F.slot_list_append PySem.F.type_list_append mt_append (pe_var hN hv hd hcd) (pa_cons (sE e) pa_nil he) hbase hfew hline he hpl) hs) ?_
  refine ⟨_, e1, tyL (F := F) e4, ?_⟩
  refine ha F H σ _ S fun v F1 H1 s1 d1 => ?_
  have S1 := S.step s1
  have e4' := s1.ext _ _ e4 (by simp) (fun _ z => by cases z)
  refine ⟨r, vs, v, rfl, rfl, e4', by rw [dvAll_len e5]; exact hl, ?_⟩
  exact h F1 _ σ (S1.write hδ rfl e1 rfl ⟨vs ++ [v], upd_same, dvAll_app (s1.dvs e5) (.cons d1 .nil)⟩ (fun _ z => by cases z))
theorem w_extend (m : Nat) {ap cp : Pos} {es2 : List D} (hδ : δ[m]? = some (.l ds)) (ha : ER X c δ e es2) (hl : ds.length + es2.length ≤ sizeLine) (h : Nx c (δ.set m (.l (ds ++ es2))) Dn.nx)
    (hN : X.N[m]? = some x := by rfl) (hv : Vis X.env.scope x := by first | exact Or.inl rfl | exact Or.inr (Or.inl rfl) | exact Or.inr (Or.inr rfl)) (hd : (x == ("__debug__" : Str)) = false := by decide) (hcd : (x == ("__classdict__" : Str)) = false := by decide)
    (hbase : attributeBase (.Name x p) "extend" X.env (eval (.Name x p) X.env) = eval (.Name x p) X.env := by rfl)
    (hfew : ((backTo cp (starEach (e :: []) X.env)).all (fun x => !x.1) && (backToKw cp (keywordEach [] X.env)).all (fun x => x.1.isSome) && decide ((e :: ([] : List Expr)).length + ([] : List Keyword).length + (if ([] : List Keyword).isEmpty then 0 else 1) < 30)) = true := by rfl)
    (hline : (ap.endLine == cp.line) = true := by rfl) (he : starEach (e :: []) X.env = (false, eval e X.env) :: starEach [] X.env := by rfl) (hpl : (backTo cp (starEach [] X.env)).any (·.1) = false := by rfl)
    (hs : swapsWith (.Call (.Attribute (.Name x p) "extend" ap) [e] [] cp) none pos.line X.env = pure false := by rfl) : W1 X c δ (.Expr (.Call (.Attribute (.Name x p) "extend" ap) [e] [] cp) pos) Dn := fun F H σ S => by
  obtain ⟨r, vs, e1, e2, e3, e4, e5⟩ := S.lst hδ
  refine uS (ps_expr (pe_bm PySem.F.plainAttrs_list PySem.F.slot_list_extend PySem.F.type_list_extend mt_extend (pe_var hN hv hd hcd) (pa_cons (sE e) pa_nil he) hbase hfew hline he hpl) hs) ?_
  refine ⟨_, e1, tyL (F := F) e4, ?_⟩
  refine ha F H σ _ S fun r2 vs2 F1 H1 s1 f3 f4 => ?_
  have S1 := S.step s1
  have e4' := s1.ext _ _ e4 (by simp) (fun _ z => by cases z)
  refine ⟨r, r2, vs, vs2, rfl, rfl, e4', f3, by rw [dvAll_len e5, dvAll_len f4]; exact hl, ?_⟩
  exact h F1 _ σ (S1.write hδ rfl e1 rfl ⟨vs ++ vs2, upd_same, dvAll_app (s1.dvs e5) f4⟩ (fun _ z => by cases z))
/-- name[i] = data -/
theorem w_store (m : Nat) {e2 : Expr} {p' : Pos} {jj : Nat} (hδ : δ[m]? = some (.l ds)) (hv' : ED X c δ e d) (hi' : ED X c δ e2 (.int i)) (hj : ixN ds.length i = some jj) (h : Nx c (δ.set m (.l (ds.set jj d))) Dn.nx)
    (hN : X.N[m]? = some x := by rfl) (hv : Vis X.env.scope x := by first | exact Or.inl rfl | exact Or.inr (Or.inl rfl) | exact Or.inr (Or.inr rfl)) (hd : (x == ("__debug__" : Str)) = false := by decide) (hcd : (x == ("__classdict__" : Str)) = false := by decide)
    (ha : ∀ v, assign (.Subscript (.Name x p) e2 p') X.env v = (do
      let ov ← holding [v] (eval (.Name x p) X.env)
      let iv ← holding [v, ov] (eval e2 X.env)
      standAt p'
      holding [v, ov, iv] (setItem ov iv v)
      release [v, ov, iv] []) := by intro _; rfl)
    (hs : swapsWithSole [.Subscript (.Name x p) e2 p'] e pos.line X.env = pure false := by rfl) (hw : swappedStores [.Subscript (.Name x p) e2 p'] e X.env = pure none := by rfl)
    (h1 : (assignEach [.Subscript (.Name x p) e2 p'] X.env).map (·.2) = [assign (.Subscript (.Name x p) e2 p') X.env] := by rfl) : W1 X c δ (.Assign [.Subscript (.Name x p) e2 p'] e pos) Dn := fun F H σ S => by
  refine uS (ps_asg (sE e) (pg_sub (pe_var hN hv hd hcd) (sE e2) set_list ha) hs hw h1) ?_
  refine hv' F H σ _ S fun v F1 H1 s1 d1 => ?_
  obtain ⟨r, vs, e1, e2', e3, e4, e5⟩ := (S.step s1).lst hδ
  refine ⟨_, e1, ?_⟩
  refine hi' F1 H1 σ _ (S.step s1) fun iv F2 H2 s2 d2 => ?_
  have S2 := (S.step s1).step s2
  have e4' := s2.ext _ _ e4 (by simp) (fun _ z => by cases z)
  refine ⟨r, vs, i, jj, rfl, dv_int d2, e4', by rw [dvAll_len e5]; exact hj, ?_⟩
  exact h F2 _ σ (S2.write hδ rfl e1 rfl ⟨_, upd_same, dvAll_set (s2.dv d1) jj (s2.dvs e5)⟩ (fun _ z => by cases z))
/-- n += e -/
theorem w_augAdd (m : Nat) {p' : Pos} (hN : X.N.Nodup) (hδ : δ[m]? = some (.d (.int i))) (he : ED X c δ e (.int j)) (h : Nx c (δ.set m (.d (.int (i + j)))) Dn.nx) (hi : X.N[m]? = some x := by rfl) (hx : Loc X.env.scope x := by first | exact Or.inl rfl | exact Or.inr rfl)
    (hf : X.fn x = true ∨ X.env.scope.names.lookup x = some .local := by first | exact .inl rfl | exact .inr rfl) : W1 X c δ (.AugAssign (.Name x p') .Add e pos) Dn := fun F H σ S => by
  refine uS (ps_aug hN hi hx (sE e) ip_add hf) ?_
  obtain ⟨v, e1, e2⟩ := S.data hδ
  refine ⟨v, e1, ?_⟩
  refine he F H σ _ S fun u F1 H1 s1 d1 => ?_
  exact ⟨i, j, dv_int e2, dv_int d1, h F1 H1 _ ((S.step s1).set m rfl ⟨_, rfl, .int _⟩)⟩

/-! ### loops -/
/-- for: I by the turn and the slots -/
theorem w_for (hp : PassesOwn (model X.prog X.w) X.A X.env X.xe) (hc : X.calm = true) (hi : EIF X c δ tg iter ds) (I : Nat → List Sd → Prop) (h0 : I 0 δ)
    (hb : ∀ (t : Nat) (y : D) (δ1 : List Sd), ds[t]? = some y → I t δ1 → ∀ Fp, Sub c.Fp Fp → ∃ is δ2, EG X (c.pin Fp) δ1 tg y is δ2 ∧
      WS X (c.pin Fp) δ2 body { Dn with nx := fun σ H => ∃ F δ3, I (t + 1) δ3 ∧ Sta (c.pin Fp) F H σ δ3, ct := fun σ H => ∃ F δ3, I (t + 1) δ3 ∧ Sta (c.pin Fp) F H σ δ3, bk := Dn.nx })
    (hd : ∀ δ1, I ds.length δ1 → Nx c δ1 Dn.nx) (hs : ∀ x, foldedSetIterable iter X.env x = pure x := by intro _; rfl) : W1 X c δ (.For tg iter body [] pos) Dn := fun F H σ S => by
  refine uS (ps_for hp hc (sI tg iter) (sG tg) (sSs body) hs) ?_
  refine hi F H σ _ S fun J F1 H1 s1 w1 => ?_
  have hsub : Sub c.Fp F1 := (S.step s1).pin
  refine ⟨fun t m σ' H' => m = ds.length - t ∧ t ≤ ds.length ∧ ∃ F' δ1, I t δ1 ∧ Sta (c.pin F1) F' H' σ' δ1, ⟨ds.length, by simp, Nat.zero_le _, F1, δ, h0, (S.step s1).pinned (Sub.refl F1)⟩, ?_⟩
  rintro t m σ' H' ⟨rfl, ht, F', δ1, hI, S1⟩
  obtain ⟨wg, ws⟩ := w1 F' H' S1.pin S1.fz S1.tb t
  by_cases hlt : t < ds.length
  · have hx : ds[t]? = some ds[t] := List.getElem?_eq_getElem hlt
    obtain ⟨go, wy⟩ := wg _ hx
    refine .inr ⟨go, fun σ' H' => ∃ F δ3, I (t + 1) δ3 ∧ Sta (c.pin F1) F H' σ' δ3, fun σ2 H2 ⟨F2, δ3, a1, a2⟩ => ⟨ds.length - (t + 1), by omega, rfl, hlt, F2, δ3, a1, a2⟩, fun v H2 hy => ?_⟩
    obtain ⟨F2, s2, d2⟩ := wy v H2 hy
    obtain ⟨is, δ2, hg, hw⟩ := hb t _ δ1 hx hI F1 hsub
    refine hg F2 H2 σ' v _ (S1.step s2) d2 fun σ3 S3 _ _ => ?_
    exact hw F2 H2 σ3 S3
  · have : t = ds.length := by omega
    subst this
    exact .inl ⟨ws (Nat.le_refl _), hd δ1 hI F' H' σ' (S1.unpin hsub)⟩
/-- while: I with its measure -/
theorem w_while (hp : PassesOwn (model X.prog X.w) X.A X.env X.xe) (I : Nat → List Sd → Prop) (m0 : Nat) (h0 : I m0 δ)
    (hb : ∀ (m : Nat) (δ1 : List Sd), I m δ1 → ∃ k, ET X c δ1 e k ∧ (k = true → WS X c δ1 body { Dn with nx := fun σ H => ∃ F m' δ3, m' < m ∧ I m' δ3 ∧ Sta c F H σ δ3, ct := fun σ H => ∃ F m' δ3, m' < m ∧ I m' δ3 ∧ Sta c F H σ δ3, bk := Dn.nx }) ∧ (k = false → Nx c δ1 Dn.nx)) :
    W1 X c δ (.While e body [] pos) Dn := fun F H σ S => by
  refine uS (ps_while hp (sT e) (sSs body)) ?_
  refine ⟨fun m σ' H' => ∃ F' δ1, I m δ1 ∧ Sta c F' H' σ' δ1, ⟨m0, F, δ, h0, S⟩, ?_⟩
  rintro m σ' H' ⟨F', δ1, hI, S1⟩
  obtain ⟨k, ht, h1, h2⟩ := hb m δ1 hI
  refine ht F' H' σ' _ S1 fun F1 H1 s1 => ?_
  cases k with
  | true => exact iteT ⟨fun σ H => ∃ F m' δ3, m' < m ∧ I m' δ3 ∧ Sta c F H σ δ3, fun σ2 H2 ⟨F2, m', δ3, a1, a2, a3⟩ => ⟨m', a1, F2, δ3, a2, a3⟩, h1 rfl F1 H1 σ' (S1.step s1)⟩
  | false => exact iteF (h2 rfl F1 H1 σ' (S1.step s1))
/-- a loop's turn has ended well -/
theorem nx_next {I : Nat → List Sd → Prop} {t : Nat} (h : I t δ) : Nx c δ (fun σ H => ∃ F δ3, I t δ3 ∧ Sta c F H σ δ3) := fun F H σ S => ⟨F, δ, h, S⟩
theorem nx_again {I : Nat → List Sd → Prop} {m m' : Nat} (hm : m' < m) (h : I m' δ) : Nx c δ (fun σ H => ∃ F m' δ3, m' < m ∧ I m' δ3 ∧ Sta c F H σ δ3) := fun F H σ S => ⟨F, m', δ, hm, h, S⟩
end
end Fs

set_option Elab.async false
set_option linter.all false
set_option maxRecDepth 100000
set_option maxHeartbeats 4000000
/-! Firesseen: BadArgument(name) made and raised. -/
namespace Fs
open PySem PySem.Spec PySem.W PySem.Calls PyProof.Rows PySem.HandSPX

/-! ### the text of __init__ -/
def bA : Arguments := { posonlyargs := [], args := [{ arg := "self", annotation := none, pos := ⟨4, 17, 4, 21⟩ }, { arg := "name", annotation := none, pos := ⟨4, 23, 4, 27⟩ }], vararg := none, kwonlyargs := [], kw_defaults := [], kwarg := none, defaults := [] }
def bB1 : Stmt := .Expr (.Call (.Attribute (.Call (.Name "super" ⟨5, 8, 5, 13⟩) [] [] ⟨5, 8, 5, 15⟩) "__init__" ⟨5, 8, 5, 24⟩) [.BinOp (.Constant (.str "bad argument: ") 0 ⟨5, 25, 5, 41⟩) .Add (.Name "name" ⟨5, 44, 5, 48⟩) ⟨5, 25, 5, 48⟩] [] ⟨5, 8, 5, 49⟩) ⟨5, 8, 5, 49⟩
def bB2 : Stmt := .Assign [.Attribute (.Name "self" ⟨6, 8, 6, 12⟩) "name" ⟨6, 8, 6, 17⟩] (.Name "name" ⟨6, 20, 6, 24⟩) ⟨6, 8, 6, 24⟩
def bB : List Stmt := [bB1, bB2]
def bS : Scope := { kind := .function, names := [(PySem.Str.ofString "self", .local), (PySem.Str.ofString "name", .local), (PySem.Str.ofString "__class__", .free), (PySem.Str.ofString "super", .globalImplicit)], isGenerator := false, isCoroutine := false, more := [] }
/-- what the written part says of BadArgument, at C, and of its __init__, at fI -/
structure BadTxt (prog : Program) (K : Frag) (mg : Str → Option Value) (C fI : Addr) : Prop where
  gC : mg "BadArgument" = some (.ref C)
  gS : mg "super" = none
  cls : ∃ nm q N bs bm sn sub ab col dd k0 k1 k2 k3 k5, K.lookup C = some (excClassObj nm q C N bs bm true sn sub ab col dd k0 k1 k2 k3 k5 "ValueError.__new__") ∧ refsVE bm = true
  sa : findIn K (.ref C) "__setattr__" = some (some (.builtin "object.__setattr__"))
  noN : findIn K (.ref C) "name" = some none
  iC : findIn K (.ref C) "__init__" = some (some (.ref fI))
  tC : typeIn K (.ref fI) = some (.type "function")
  kC : keepIn K (.ref C) = true
  tyC : typeIn K (.ref C) = some (.type "type")
  xf : L2.XfC K C
  te : exmOne K (.ref C) (.ref C) = some true
  sVE : subIn K (.ref C) (.type "ValueError") = some true
  sCC : mroIn K C (.ref C) = some true
  nth : nsIn K cStatics "thirdparty.any" = some none
  sup : ks_superIn K C C "__init__" = some (some (.builtin "ValueError.__init__"))
  top : (prog.main.scope.names.lookup ("super" : Str)).isSome = false
  fn : ∃ (oc : Value) (od : Option Addr) (doc pm : Value) (an : Option Addr) (cda cc : Addr) (ct : Value) (osl : Array (Option Value)) (co : Value) (cd : Option Addr) (vs : Array Value) (cs : Array (Option Value)) (file : Str) (tf : Tok) (cl : Value) (cld : Option Addr) (csl : Array (Option Value)),
    K.lookup fI = some ⟨oc, od, .func (ksFn "__init__" "BadArgument.__init__" bA bB bS .none .none doc pm an (.ref cda) ct cc), osl⟩ ∧ codeIn K (.ref cda) "BadArgument.__init__" = true ∧
    K.lookup cda = some ⟨co, cd, .fields vs, cs⟩ ∧ vs[2]? = some (.str file tf) ∧ ((prog.main.file : Str) == file) = true ∧ K.lookup cc = some ⟨cl, cld, .cell (some (.ref C)), csl⟩
theorem one_size (v : Value) : [v].length ≤ sizeLine := by
  rw [sizeLine_eq]
  exact (by decide : 1 ≤ 16777216)
/-- what __init__ leaves of a fresh exception at x -/
structure InitEnd (h h' : Heap) (x C dx t1 : Addr) (v : Value) : Prop where
  keep : ∀ b o, b ≠ x → h.get? b = some o → h'.get? b = some o
  obj : h'.get? x = some { cls := .ref C, dict := some dx, data := .fields #[.ref t1, .none, .none, .none, .bool false, .none] }
  dbig : h.objs.size ≤ dx
  dne : dx ≠ x
  ns : h'.Ns1 dx (fun y => if y = "name" then some v else none)
/-- a made BadArgument -/
structure OwnMade (h h' : Heap) (e C d : Addr) (v : Value) : Prop where
  keep : ∀ b o, h.get? b = some o → h'.get? b = some o
  new : h.objs.size ≤ e
  obj : ∃ oe vs, h'.get? e = some oe ∧ oe.cls = .ref C ∧ oe.dict = some d ∧ oe.data = .fields vs ∧ vs[1]? = some .none
  dbig : h.objs.size ≤ d
  dne : d ≠ e
  ns : h'.Ns1 d (fun y => if y = "name" then some v else none)
section
variable {prog : Program} {w : World} {A : Around} {E : Value → Shared → Prop} {R : Result → Shared → Prop} {s : Shared} {K : Frag} {mg mb : Str → Option Value} {C fI : Addr}
theorem ns_keep {h h' : Heap} {L : Addr} {m : Str → Option Value} (hn : h.Ns L m) (k : ∀ b o, h.get? b = some o → h'.get? b = some o) : h'.Ns L m := by
  obtain ⟨o, es, ep, ho, r⟩ := hn
  exact ⟨o, es, ep, k _ _ ho, r⟩
theorem ns_keep_ne {h h' : Heap} {L x : Addr} {m : Str → Option Value} (hn : h.Ns L m) (hL : L ≠ x) (k : ∀ b o, b ≠ x → h.get? b = some o → h'.get? b = some o) : h'.Ns L m := by
  obtain ⟨o, es, ep, ho, r⟩ := hn
  exact ⟨o, es, ep, k _ _ hL ho, r⟩
theorem in_ne {h h' : Heap} {x : Addr} (X : K.In h) (hnx : K.lookup x = none) (k : ∀ b o, b ≠ x → h.get? b = some o → h'.get? b = some o) : K.In h' := fun a o e => k a o (fun z => by rw [z, hnx] at e; cases e) (X a o e)
theorem bad_init (T : BadTxt prog K mg C fI) {x t0 : Addr} {nm : Str} {tn : Tok} (X : K.In s.heap) (hlim : s.heap.NoLimit) (hg : s.heap.Ns mainGlobals mg) (hb : s.heap.Ns builtinsNs mb) (hbs : mb "super" = some (.type "super")) (hx : s.heap.get? x = some (excO C t0)) (hnx : K.lookup x = none) (hroom : A.depth < recursionLimit)
    (hl : nm.length ≤ 1000)
    (hq : ∀ h' tk dx t1, InitEnd s.heap h' x C dx t1 (.str nm tn) → R (.ok (.ret .none)) { s with heap := h', toks := tk }) :
    codeAny (model prog w) A (.call (.ref fI) ⟨[.ref x, .str nm tn], []⟩) R s := by
  obtain ⟨oc, od, doc, pm, an, cda, cc, ct, osl, co, cd, vs, cs, file, tf, cl, cld, csl, ho, hcd, hcode, hvs, hfile, hcell⟩ := T.fn
  obtain ⟨nmC, q, N, bs, bm, sn, sub, ab, col, dd, k0, k1, k2, k3, k5, hC, hbm⟩ := T.cls
  have hcl : clsIn K C = some { name := nmC, bases := bs, mro := .ref C :: bm, ns := N, qualname := q, hasDict := true, slotNames := sn, subclasses := sub, abstract := ab, collection := col, hasDel := false } := by unfold clsIn; rw [hC] <;> rfl
  refine ks_codeAny_call_defAt (fd := ksFn "__init__" "BadArgument.__init__" bA bB bS .none .none doc pm an (.ref cda) ct cc) (body := bB)
    (binds := [("self", .ref x), ("name", .str nm tn)]) hroom (X _ _ ho) rfl hlim (codeRec_of X hcd) rfl (BindsTo.of_eq (by first | rfl | with_unfolding_all rfl)) (show ∀ x ∈ bS.names, x.2 ≠ .cell by decide) (fun y hy => ?_) (fun h₁ hn k => ?_)
  · rcases List.mem_cons.mp hy with rfl | hy
    · rfl
    · rcases List.mem_cons.mp hy with rfl | hy
      · rfl
      · cases hy
  · have X₁ : K.In h₁ := X.keeps k
    have hx₁ := k _ _ hx
    have hxL : s.heap.objs.size ≠ x := Nat.ne_of_gt (Heap.lt_size hx)
    have hg₁ := ns_keep hg k
    have hb₁ := ns_keep hb k
    have hxC : x ≠ C := fun z => by rw [z, hC] at hnx; cases hnx
    have hsz : s.heap.objs.size < h₁.objs.size := hn.lt
    obtain ⟨hh, g, d, t, os⟩ := s
    dsimp only at *
    -- super().__init__(..)
    refine ks_wpAt_execs_cons (ks_wpAt_Expr_any (ks_wpAt_MethodCall (ks_wpAt_super_base (env := ksEnv "BadArgument.__init__" bS hh.objs.size fI (.ref cda) cc) rfl rfl (by decide) rfl (X₁ _ _ ho) rfl rfl rfl (X₁ _ _ hcode) rfl hvs hfile T.top ?_)))
    refine ks_loadName_global rfl rfl (loadGlobal_builtin (env := ksEnv "BadArgument.__init__" bS hh.objs.size fI (.ref cda) cc) hg₁ T.gS hb₁ hbs ⟨rfl, ?_⟩)
    refine wpAny_loadName_free rfl rfl rfl ⟨_, X₁ _ _ hcell, rfl⟩ ?_
    refine wpAny_loadName_local (v := .ref x) rfl rfl hn (by first | rfl | with_unfolding_all rfl | kernel_rfl) ?_
    refine ks_wpAny_isType_cls (X₁ _ _ hC) rfl ⟨rfl, ?_⟩
    refine ks_wpAny_call_super (X₁ _ _ hC) rfl hx₁ rfl (fun c e => by cases e) (looks_mroIn X₁ T.sCC) (fun h₂ e₂ k₂ => ?_)
    have X₂ : K.In h₂ := X₁.keeps k₂
    have sup := T.sup
    unfold ks_superIn at sup
    rw [hcl] at sup
    have I₂ : InstAt h₂ x (excO C t0) C none := ⟨k₂ _ _ hx₁, rfl, rfl, trivial⟩
    refine kxs_getMethod kxs_ValueError e₂ (looks_opaque X₂ T.nth) (l₀ := .ref C :: bm) (fun A Q E s k q => wpAny_bind ((looks_clsIn X₂ hcl) A _ E s k (wpAny_pure q))) rfl X₂ sup (I₂.type.andThen (looks_subIn X₂ T.sVE)) hxC (by decide) ?_
    have ex₃ : (h₂.push (kxs_mw "ValueError.__init__" x)).get? x = some (excO C t0) := Heap.get?_push_of_some _ I₂.at_
    have eu₃ : (h₂.push (kxs_mw "ValueError.__init__" x)).get? h₂.objs.size = some (kxs_mw "ValueError.__init__" x) := Heap.get?_push_at rfl rfl
    have k₃ : ∀ b o, h₁.get? b = some o → (h₂.push (kxs_mw "ValueError.__init__" x)).get? b = some o := fun b o e => Heap.get?_push_of_some _ (k₂ b o e)
    generalize hh₃ : h₂.push (kxs_mw "ValueError.__init__" x) = h₃ at ex₃ eu₃ k₃ ⊢
    have X₃ : K.In h₃ := X₁.keeps k₃
    refine kxs_callWith (i := "ValueError.__init__") (x := x) (by first | rfl | decide) ?_
    refine evalArgs_plain ?_
    refine spliced_cons (wpAny_BinOp (Constant_str ?_))
    refine wpAny_Name (wpAny_loadName_local (v := .str nm tn) rfl rfl (ns_keep hn k₃) (by first | rfl | with_unfolding_all rfl | kernel_rfl) ?_) (by decide)
    refine PySem.SB.add (fun t' k' => ?_) ?_
    · refine spliced_nil ⟨eu₃, ?_⟩
      refine wpAny_call (codeAny_of_tree ?_)
      show wpAny _ (Around.in1 _) (callAny (.ref h₂.objs.size) ⟨[.str (("bad argument: " : Str) ++ nm) t'], []⟩) _ _ _
      simp only [callAny]
      refine wpAny_bind (wpAny_load eu₃ ?_)
      simp only [kxs_mw, show (Value.type "method-wrapper" == Value.type "method" || Value.type "method-wrapper" == Value.type "builtin_function_or_method" || Value.type "method-wrapper" == Value.type "method-wrapper") = true by decide, if_true]
      refine KFB.if_so (by decide) ?_
      refine wpAny_bind (check_bound_init PySem.F.excBase_ValueError.toExcCallFacts (X₃ _ _ hC) ex₃ rfl ?_)
      refine wpAny_bind (wpAny_pure (wpAny_pure ?_))
      refine ⟨plainId_quiet PySem.F.excBase_ValueError.init.plain _, codeAny_builtin PySem.F.excBase_ValueError.initEntry ?_⟩
      refine exc_init_tree (cls := .ref C) (t0 := t0) (dv := none) (c2 := .none) (c3 := .none) (b4 := .bool false) ex₃ (one_size _) (fun h₄ k₄ ex₄ _ => ?_)
      -- self.name = name
      have X₄ : K.In h₄ := in_ne X₃ hnx k₄
      have k₁₄ : ∀ b o, b ≠ x → h₁.get? b = some o → h₄.get? b = some o := fun b o hb e => k₄ b o hb (k₃ b o e)
      have hn₄ := ns_keep_ne hn hxL k₁₄
      show PySem.wpAt _ _ _ (execs [bB2] _) _ _ _
      refine wpAt_of_wpAny (wpAny_execs_cons (plainObj_wpAny_Assign_Attribute ?_))
      refine wpAny_Name (wpAny_loadName_local (v := .str nm tn) rfl rfl hn₄ (by first | rfl | with_unfolding_all rfl | kernel_rfl) ?_) (by decide)
      refine wpAny_Name (wpAny_loadName_local (v := .ref x) rfl rfl hn₄ (by first | rfl | with_unfolding_all rfl | kernel_rfl) ?_) (by decide)
      refine set_plain X₄ (ox := excO C h₃.objs.size) (od := none) ⟨ex₄, rfl, rfl, trivial⟩ T.sa ?_
      refine exc_osa X₄ ex₄ hcl (show refsVE (.ref C :: bm) = true from hbm) rfl T.noN (fun h₅ tk₅ dx k₅ dn dne hx₅ hn₅ => ?_)
      show wpAny _ _ (execs _ _) _ _ _
      refine wpAny_execs_nil (hq h₅ tk₅ dx h₃.objs.size ⟨fun b o hb e => k₅ b o hb (k₁₄ b o hb (k b o e)), hx₅, ?_, dne, hn₅⟩)
      have z : hh.objs.size < h₄.objs.size := hn₄.lt
      exact Nat.le_of_lt (Nat.lt_of_lt_of_le z dn)
    · rw [sizeLine_eq]
      have : ("bad argument: " : Str).length = 14 := by decide +kernel
      omega
theorem bad_made (T : BadTxt prog K mg C fI) {nm : Str} {tn : Tok} (X : K.In s.heap) (hlim : s.heap.NoLimit) (hg : s.heap.Ns mainGlobals mg) (hb : s.heap.Ns builtinsNs mb) (hbs : mb "super" = some (.type "super")) (hroom : A.depth + 1 < recursionLimit) (hl : nm.length ≤ 1000)
    (hq : ∀ h' tk e d, OwnMade s.heap h' e C d (.str nm tn) → R (.ok (.ret (.ref e))) { s with heap := h', toks := tk }) :
    codeAny (model prog w) A (.call (.ref C) ⟨[.str nm tn], []⟩) R s := by
  obtain ⟨nmC, q, N, bs, bm, sn, sub, ab, col, dd, k0, k1, k2, k3, k5, hC, hbm⟩ := T.cls
  obtain ⟨hp, g, dr, tk, os⟩ := s
  have k : ∀ b o, hp.get? b = some o → ((hp.push (kdv_tup [.str nm tn])).push (excO C hp.objs.size)).get? b = some o := fun b o e => Heap.get?_push_of_some _ (Heap.get?_push_of_some _ e)
  have hget : ((hp.push (kdv_tup [.str nm tn])).push (excO C hp.objs.size)).get? (hp.objs.size + 1) = some (excO C hp.objs.size) := by heap_get
  have hnx : K.lookup (hp.objs.size + 1) = none := by
    cases e : K.lookup (hp.objs.size + 1) with
    | none => rfl
    | some o =>
      have z : hp.get? (hp.objs.size + 1) = some o := X _ _ e
      exact absurd (Nat.lt_of_succ_lt (Heap.lt_size z)) (Nat.lt_irrefl _)
  refine call_own PySem.F.excBase_ValueError (fun X => refsVE_contains X bm hbm) (X _ _ hC) (looks_findIn X T.iC) (fun self => bind_fn X self T.tC) (one_size _) ?_
  refine bad_init (s := ⟨(hp.push (kdv_tup [.str nm tn])).push (excO C hp.objs.size), g, dr, tk, os⟩) T (X.keeps k) (hlim.keeps k) (ns_keep hg k) (ns_keep hb k) hbs hget hnx ?_ hl fun h' tk' dx t1 ⟨k', hx, dn, dne, hns⟩ => ?_
  · show A.depth + 1 < recursionLimit
    exact hroom
  · have old : ∀ b o, hp.get? b = some o → h'.get? b = some o := fun b o e => k' b o (Nat.ne_of_lt (Nat.lt_succ_of_lt (Heap.lt_size e))) (k b o e)
    have z : hp.objs.size + 1 + 1 ≤ dx := by
      first
        | (simpa only [Heap.size_push] using dn)
        | exact dn
        | (have q := dn; rw [Heap.size_push, Heap.size_push] at q; exact q)
    exact ⟨rfl, hq h' tk' (hp.objs.size + 1) dx ⟨old, Nat.le_succ _, ⟨_, _, hx, rfl, rfl, rfl, rfl⟩, Nat.le_trans (Nat.le_trans (Nat.le_succ _) (Nat.le_succ _)) z, dne, hns⟩⟩
end
theorem relO_bad {v : L2.V} {v' : Value} (r : L2.RelV v v') (f : Str) : L2.RelO (List.lookup f [(("name" : Str), v)]) (if f = "name" then some v' else none) := by
  by_cases hw : f = "name"
  · subst hw
    rw [if_pos rfl]
    have q : List.lookup ("name" : Str) [(("name" : Str), v)] = some v := by simp [List.lookup]
    rw [q]
    exact r
  · rw [if_neg hw]
    have qw : (f == ("name" : Str)) = false := by simpa using hw
    have q2 : List.lookup f [(("name" : Str), v)] = none := by simp [List.lookup, qw]
    rw [q2]
    trivial
open L2 in
/-- BadArgument(e) -/
def tMkBad (C : Addr) (ta : TA) : L2.St → Hp → XK → Prop := fun σ H Q => ta σ H fun vs H1 => ∃ nm : Str, vs = [L2.V.str nm] ∧ nm.length ≤ 1000 ∧ ∀ d, H1 d = none → Q (.ref C) (some d) (upd H1 d (.xd [(("name" : Str), L2.V.str nm)]))
open L2 in
theorem pmk_bad {X : Cx} {C fI : Addr} {a : Expr} {ta : TA} {p pos : Pos} {k : Nat} (T : BadTxt X.prog X.K X.mg C fI) (hr : Room k X.A) (ha : PA X [a] ta) (hg : Gl X "BadArgument" := by rfl)
    (he : starEach (a :: []) X.env = (false, eval a X.env) :: starEach [] X.env := by rfl) (hpl : (backTo pos (starEach [] X.env)).any (·.1) = false := by rfl) :
    PMk X (.Call (.Name "BadArgument" p) [a] [] pos) (tMkBad C ta) := by
  intro pins s σ H Q I h
  refine wpAny_Call_Name_kw (ld_glob I hg T.gC ?_)
  refine PySem.W.callWith_K (h₀ := X.base) I.ok.mod.kin T.kC (thn (ha.run pos pins s σ H _ I h) fun us s1 hh => ?_) he hpl
  obtain ⟨vs, H1, I1, r1, nm, ev, hnm, q1⟩ := hh
  subst ev
  refine ⟨I1.kIn, ?_⟩
  cases r1 with
  | cons rv rn =>
    rename_i v' us'
    cases rn
    obtain ⟨tn, rfl⟩ := rv
    show wpAny _ _ (call (.ref C) [.str nm tn]) _ _ _
    have hlim := I1.nolimit
    have hkeep : ∀ b o, X.base.get? b = some o → s1.heap.get? b = some o := fun b o e => I1.bk b o e
    obtain ⟨mb, hmb, hbt⟩ := I1.ok.mod.blt
    obtain ⟨hp, g, dr, tk, os⟩ := s1
    refine wpAny_call (bad_made T I1.kIn hlim (ns_keep I1.ok.mod.glob hkeep) (ns_keep hmb hkeep) ((hbt "super" (by decide)).trans (by decide +kernel)) (by have := hr.dp; omega) hnm fun h' tk' e d M => ?_)
    show MkP X pins σ Q (.ref e) ⟨h', g, dr, tk', os⟩
    obtain ⟨oe, fv, hoe, hc, hd, hdat, h1⟩ := M.obj
    have hns := M.ns
    obtain ⟨G', g1, g2⟩ := restrict h' fun b => decide (b ≠ e)
    have gk : ∀ b, b ≠ e → G'.get? b = h'.get? b := fun b hb => g1 b (decide_eq_true hb)
    have ge : G'.get? e = none := g2 e (by simp)
    have old : ∀ b o, hp.get? b = some o → G'.get? b = some o := fun b o q => (gk b (Nat.ne_of_lt (Nat.lt_of_lt_of_le (Heap.lt_size q) M.new))).trans (M.keep b o q)
    have rv : RelV (L2.V.str nm) (.str nm tn) := ⟨tn, rfl⟩
    have ob : ObjOk X.prog X.w (upd H1 d (.xd [(("name" : Str), L2.V.str nm)])) G' d (.xd [(("name" : Str), L2.V.str nm)]) :=
      ⟨_, hns.at (fun o q => (gk d M.dne).trans q), fun f => relO_bad rv f⟩
    have J : Inv X pins σ (upd H1 d (.xd [(("name" : Str), L2.V.str nm)])) ⟨G', g, dr, tk', os⟩ := I1.laid (t' := tk') old M.dbig ob
    refine ⟨e, oe, fv, ⟨G', g, dr, tk', os⟩, _, .ref C, some d, rfl, J, fun b o q => ?_, ge, hoe, ⟨hc, hd⟩, hdat, h1, ?_, rfl, I1.bare, raises_own T.xf.exC T.tyC, q1 d (I1.hok.fresh M.dbig)⟩
    · by_cases hb : b = e
      · have q' : G'.get? b = some o := q
        rw [hb, ge] at q'; cases q'
      · exact (gk b hb).symm.trans q
    · rw [upd_ne (Ne.symm M.dne)]
      exact I1.hok.fresh M.new
end Fs

set_option Elab.async false
set_option linter.all false
set_option maxRecDepth 100000
set_option maxHeartbeats 4000000
/-! Firesseen: the rules of defs; raise; calls that may raise. -/
namespace Fs
open PySem PySem.Spec L2
section
variable {P : Program} {w : World} {K : PySem.W.Frag} {mg : Str → Option Value} {base : Heap} {k : Nat} {x : Str} {st : Stmt} {N ps : List Str} {T : List (Addr × Option Str)} {CB : Addr} {R : List D → Res → Prop}
/-- a raising def's body at its entry -/
abbrev CxR (P : Program) (w : World) (K : PySem.W.Frag) (mg : Str → Option Value) (base : Heap) (N : List Str) (x : Str) (st : Stmt) (f : Addr) (cdv : Value) (A : Around) (outer : List Env) (s : Shared) (H : Hp) (E : XK) : Cx := cxOf (L2.CX P w) P w K mg base N x (defScope st) f cdv A outer s H E
/-- .. of one that never raises -/
abbrev CxN (P : Program) (w : World) (K : PySem.W.Frag) (mg : Str → Option Value) (base : Heap) (N : List Str) (x : Str) (st : Stmt) (f : Addr) (cdv : Value) (A : Around) (outer : List Env) (s : Shared) (H : Hp) (E : XK) : Cx := (cxOf CX0 P w K mg base N x (defScope st) f cdv A outer s H E).nox
/-- an error of the class C that names n is wished for -/
def Wx (c : Cfg) (C : Addr) (E : XK) (r : Res) : Prop := ∀ n, r = .exc n → ∀ d F H, Stp c.T c.Mx c.F0 c.H0 F H → H d = some (.xd [(("name" : Str), V.str n)]) → E (.ref C) (some d) H
abbrev cfg0 (T : List (Addr × Option Str)) (F H : Hp) : Cfg := ⟨T, [], F, H, F⟩
abbrev fin (Q : VK) : Ends := { nx := fun _ H' => Q .non H', rt := Q }
def args0 (N : List Str) (ds : List D) : List Sd := ds.map .d ++ List.replicate (N.length - ds.length) .un
theorem dvAll_slot {F : Hp} : ∀ {vs : List V} {ds : List D}, DvAll F vs ds → ∀ (i : Nat) x, (ds.map Sd.d)[i]? = some x → ∃ d v, x = .d d ∧ vs[i]? = some v ∧ Dv F v d
  | _, _, .nil, i, x, e => by simp at e
  | _, _, .cons h k, 0, x, e => ⟨_, _, (Option.some.inj e).symm, rfl, h⟩
  | _, _, .cons h k, i + 1, x, e => dvAll_slot k i x e
theorem sta0 {F H : Hp} {vs : List V} {ds : List D} (hT : Tb T H) (hF : Fz F H) (hd : DvAll F vs ds) : Sta (cfg0 T F H) F H (L2.start N vs) (args0 N ds) := by
  have hl := dvAll_len hd
  refine ⟨Stp.refl hF hT, Sub.refl F, ?_, fun i x e => ?_, fun i j x y p hij e1 e2 o1 o2 s1 => ?_⟩
  · unfold L2.start args0
    rw [List.length_append, List.length_append, List.length_map, List.length_map, List.length_replicate, List.length_replicate, hl]
  · unfold args0 at e
    rcases Nat.lt_or_ge i (ds.map Sd.d).length with hi | hi
    · rw [List.getElem?_append_left hi] at e
      obtain ⟨d, v, rfl, h1, h2⟩ := dvAll_slot hd i x e
      refine ⟨v, ?_, h2⟩
      unfold L2.start
      rw [List.getElem?_append_left (by rw [List.length_map, hl]; rw [List.length_map] at hi; exact hi), List.getElem?_map, h1]
      rfl
    · rw [List.getElem?_append_right hi, List.getElem?_replicate] at e
      split at e
      · cases e; trivial
      · cases e
  · unfold args0 at e1
    rcases Nat.lt_or_ge i (ds.map Sd.d).length with hi | hi
    · rw [List.getElem?_append_left hi] at e1
      obtain ⟨d, v, rfl, _, _⟩ := dvAll_slot hd i x e1
      cases o1
    · rw [List.getElem?_append_right hi, List.getElem?_replicate] at e1
      split at e1
      · cases e1; cases o1
      · cases e1
/-- what a law's defs stand in: ct: a def's code object and its table -/
structure En where
  P : Program
  w : World
  K : PySem.W.Frag
  mg : Str → Option Value
  base : Heap
  T : List (Addr × Option Str)
  CB : Addr
  fI : Addr
  ct : Str → Addr × Addr
abbrev En.cxR (e : En) (N : List Str) (x : Str) (st : Stmt) (f : Addr) (A : Around) (outer : List Env) (s : Shared) (H : Hp) (E : XK) : Cx := CxR e.P e.w e.K e.mg e.base N x st f (.ref (e.ct x).1) A outer s H E
abbrev En.cxN (e : En) (N : List Str) (x : Str) (st : Stmt) (f : Addr) (A : Around) (outer : List Env) (s : Shared) (H : Hp) (E : XK) : Cx := CxN e.P e.w e.K e.mg e.base N x st f (.ref (e.ct x).1) A outer s H E
/-- the def stands -/
structure Fx (e : En) (x : Str) (st : Stmt) : Prop where
  ex : ∃ f fd, FunP e.K x st f fd ∧ e.mg x = some (.ref f) ∧ fd.code = .ref (e.ct x).1
abbrev En.Cal (e : En) (CX : CXT) (k : Nat) (x : Str) (ps : List Str) (R : List D → Res → Prop) : Prop := Fs.Cal e.P e.w e.K e.mg e.base CX k x ps (spD e.T e.CB R)
abbrev En.CalN (e : En) (CX : CXT) (k : Nat) (x : Str) (n : Nat) (ks ps : List Str) (R : List D → Res → Prop) : Prop := Fs.CalN e.P e.w e.K e.mg e.base CX k x n ks ps (spD e.T e.CB R)
abbrev En.CX (e : En) : CXT := L2.CX e.P e.w
def OkF (e : En) (CX : CXT) (k : Nat) (x : Str) (st : Stmt) (ps : List Str) (R : List D → Res → Prop) : Prop := ∀ f fd, FunP e.K x st f fd → fd.code = .ref (e.ct x).1 → FnOk e.P e.w e.K e.mg e.base CX k f fd ps (spD e.T e.CB R)
def BodN (e : En) (k : Nat) (N : List Str) (x : Str) (st : Stmt) (R : List D → Res → Prop) : Prop :=
  ∀ (f : Addr) (A : Around) (outer : List Env) (s : Shared) (H : Hp) (E : XK) (F : Hp) (ds : List D) (r : Res) (Q : VK), Room k (A.deeper (PyProof.Rows.envOfC x (defScope st) s.heap.objs.size f (.ref (e.ct x).1))) → R ds r → Ret (cfg0 e.T F H) Q r →
    WS (e.cxN N x st f A outer s H E) (cfg0 e.T F H) (args0 N ds) (defBody st) (fin Q)
def BodR (e : En) (k : Nat) (N : List Str) (x : Str) (st : Stmt) (R : List D → Res → Prop) : Prop :=
  ∀ (f : Addr) (A : Around) (outer : List Env) (s : Shared) (H : Hp) (E : XK) (F : Hp) (ds : List D) (r : Res) (Q : VK), Room k (A.deeper (PyProof.Rows.envOfC x (defScope st) s.heap.objs.size f (.ref (e.ct x).1))) → R ds r → Ret (cfg0 e.T F H) Q r → Wx (cfg0 e.T F H) e.CB E r →
    WS (e.cxR N x st f A outer s H E) (cfg0 e.T F H) (args0 N ds) (defBody st) (fin Q)
theorem okN {e : En} (S : FnScope N ps (defScope st)) (hl : ∀ ds r, R ds r → ds.length = ps.length) (hb : BodN e k N x st R) : OkF e CX0 (k + 1) x st ps R := fun f fd hf hc => by
  obtain ⟨oc, od, dV, kV, doc, pm, an, cdv, ct, osl, rfl, lk, hcd, _, _⟩ := hf.ex
  obtain rfl : cdv = .ref (e.ct x).1 := hc
  refine fn_of (CX := CX0) lk hcd S (fun vs H Q E ⟨F, ds, r, _, _, hd, hR, _⟩ => (dvAll_len hd).trans (hl ds r hR)) fun A outer s H vs Q E hr hsp => ?_
  obtain ⟨F, ds, r, hT, hF, hd, hR, hq, _⟩ := hsp
  refine ⟨_, PSs.nox (sSs _), ?_⟩
  exact hb f A outer s H E F ds r Q hr hR (fun v F' H' s p => hq v F' H' s p) F H _ (sta0 hT hF hd)
theorem okR {e : En} (S : FnScope N ps (defScope st)) (hl : ∀ ds r, R ds r → ds.length = ps.length) (hb : BodR e k N x st R) : OkF e e.CX (k + 1) x st ps R := fun f fd hf hc => by
  obtain ⟨oc, od, dV, kV, doc, pm, an, cdv, ct, osl, rfl, lk, hcd, _, _⟩ := hf.ex
  obtain rfl : cdv = .ref (e.ct x).1 := hc
  refine fn_of (CX := L2.CX e.P e.w) lk hcd S (fun vs H Q E ⟨F, ds, r, _, _, hd, hR, _⟩ => (dvAll_len hd).trans (hl ds r hR)) fun A outer s H vs Q E hr hsp => ?_
  obtain ⟨F, ds, r, hT, hF, hd, hR, hq, he⟩ := hsp
  refine ⟨_, sSs _, ?_⟩
  exact hb f A outer s H E F ds r Q hr hR (fun v F' H' s p => hq v F' H' s p) (fun n e d F' H' s hd => he n e d F' H' s hd) F H _ (sta0 hT hF hd)
theorem Fx.cal {e : En} {CX : CXT} (F : Fx e x st) (O : OkF e CX k x st ps R) (h : ∀ (kV doc pm : Value) (an : Option Addr) (cdv ct : Value) (us : List Value), us.length = ps.length → bindArgs (PySem.W.fnOf x x (defArgs st) (defBody st) (defScope st) .none kV doc pm an cdv ct) ⟨us, []⟩ = pure (ps.zip us)) :
    e.Cal CX k x ps R := by
  obtain ⟨f, fd, h1, h2, h3⟩ := F.ex
  exact ⟨f, fd, h2, h1.kp, FunD.bindsN h1 h, O f fd h1 h3⟩
theorem Fx.calN {e : En} {CX : CXT} {n : Nat} {ks : List Str} (F : Fx e x st) (O : OkF e CX k x st ps R)
    (h : ∀ (kV doc pm : Value) (an : Option Addr) (cdv ct : Value) (us ws : List Value), us.length = n → ws.length = ks.length → bindArgs (PySem.W.fnOf x x (defArgs st) (defBody st) (defScope st) .none kV doc pm an cdv ct) ⟨us, ks.zip ws⟩ = pure (ps.zip (us ++ ws))) :
    e.CalN CX k x n ks ps R := by
  obtain ⟨f, fd, h1, h2, h3⟩ := F.ex
  refine ⟨f, fd, h2, h1.kp, ?_, O f fd h1 h3⟩
  obtain ⟨oc, od, dV, kV, doc, pm, an, cdv, ct, osl, rfl, lk, hcd, hD, hK⟩ := h1.ex
  rcases hD with ⟨_, rfl⟩ | ⟨e, _⟩
  · exact ⟨fun s us ws _ l1 l2 => .of_eq (h kV doc pm an cdv ct us ws l1 l2), fun r1 r2 => r1.append r2⟩
  · exact absurd rfl e
/-- from here on nothing is raised -/
theorem ws_nox {X : Cx} {c : Cfg} {δ : List Sd} {sts : List Stmt} {Dn : Ends} (h : WS X.nox c δ sts Dn) : WS X c δ sts Dn := fun F H σ S => uSs (PSs.nox (sSs sts)) (h F H σ S)
end
section
variable {X : Cx} {c : Cfg} {δ δ' δ2 : List Sd} {e a b tg iter elt : Expr} {es ifs : List Expr} {pos p pos2 : Pos} {d : D} {ds : List D} {i j : Int} {k l : Bool} {is js : List Nat} {x : Str} {n : Nat} {ps ks : List Str} {CB fI : Addr} {R : List D → Res → Prop} {Dn : Ends} {E : XK}
theorem w_raise {nm : Str} (T : BadTxt X.prog X.K X.mg CB fI) (hc : X.calm = true) (tk : Takes X (fun cls d _ H => E cls d H)) (hr : Room n X.A) (ha : ED X c δ a (.str nm)) (hl : nm.length ≤ 1000) (hw : Wx c CB E (.exc nm)) (hg : Gl X "BadArgument" := by rfl)
    (he : starEach (a :: []) X.env = (false, eval a X.env) :: starEach [] X.env := by rfl) (hpl : (backTo pos (starEach [] X.env)).any (·.1) = false := by rfl) :
    W1 X c δ (.Raise (some (.Call (.Name "BadArgument" p) [a] [] pos)) none pos2) Dn := fun F H σ S => by
  refine uS (ps_raise hc tk (pmk_bad T hr (pa_cons (sE a) pa_nil he) hg he hpl)) ?_
  refine ha F H σ _ S fun v F1 H1 s1 d1 => ?_
  refine ⟨nm, by rw [dv_str d1], hl, fun dd hd => ?_⟩
  have s2 : Stp c.T [] F H F1 (upd H1 dd (.xd [(("name" : Str), V.str nm)])) := s1.trans (Stp.newO s1.fz s1.tb hd)
  exact hw nm rfl dd F1 _ (S.base.trans s2.wide) upd_same
/-- f(..) as a statement, f may raise -/
theorem w_callX {r : Res} (C : Cal X.prog X.w X.K X.mg X.base (L2.CX X.prog X.w) n x ps (spD c.T CB R)) (tk : Takes X (fun cls d _ H => E cls d H)) (hr : Room n X.A) (ha : EA X c δ (e :: es) ds) (hR : R ds r) (h1 : ∀ d, r = .d d → Nx c δ Dn.nx) (h2 : Wx c CB E r) (h3 : (∃ d, r = .d d) ∨ ∃ n, r = .exc n) (hg : Gl X x := by rfl) (hdb : (x == ("__debug__" : Str)) = false := by decide)
    (he : starEach (e :: es) X.env = (false, eval e X.env) :: starEach es X.env := by rfl) (hpl : (backTo pos (starEach es X.env)).any (·.1) = false := by rfl) (hs : swapsWith (.Call (.Name x p) (e :: es) [] pos) none pos2.line X.env = pure false := by rfl) : W1 X c δ (.Expr (.Call (.Name x p) (e :: es) [] pos) pos2) Dn := fun F H σ S => by
  obtain ⟨f, fd, g1, g2, g3, g4⟩ := C.ex
  refine uS (ps_expr (pe_call (E := E) g4 hr hg g1 g2 g3 .nil (passes_call tk fun _ _ _ _ z => z) (sA (e :: es)) hdb he hpl) hs) ?_
  refine ha F H σ _ S fun vs F1 H1 s1 d1 => ?_
  rw [List.append_nil]
  refine ⟨F1, ds, r, s1.tb, s1.fz, d1, hR, fun v F2 H2 s2 d2 => ?_, fun nm er dd F2 H2 s2 hd => h2 nm er dd F2 H2 (S.base.trans (s1.trans s2).wide) hd⟩
  cases r with
  | d x => exact h1 x rfl F2 H2 σ (S.step (s1.trans s2))
  | exc nm => exact d2.elim
  | l _ => exact absurd h3 (by rintro (⟨_, z⟩ | ⟨_, z⟩) <;> cases z)
  | k _ => exact absurd h3 (by rintro (⟨_, z⟩ | ⟨_, z⟩) <;> cases z)
  | t _ => exact absurd h3 (by rintro (⟨_, z⟩ | ⟨_, z⟩) <;> cases z)
  | z _ => exact absurd h3 (by rintro (⟨_, z⟩ | ⟨_, z⟩) <;> cases z)
end
/-! ### forgetting slots -/
inductive Wk : List Sd → List Sd → Prop
  | nil : Wk [] []
  | same {x : Sd} {a b : List Sd} : Wk a b → Wk (x :: a) (x :: b)
  | un {x : Sd} {a b : List Sd} : Wk a b → Wk (.un :: a) (x :: b)
theorem Wk.len : ∀ {a b : List Sd}, Wk a b → a.length = b.length
  | _, _, .nil => rfl
  | _, _, .same h => congrArg Nat.succ h.len
  | _, _, .un h => congrArg Nat.succ h.len
theorem Wk.get : ∀ {a b : List Sd}, Wk a b → ∀ (i : Nat) y, a[i]? = some y → y = .un ∨ b[i]? = some y
  | _, _, .nil, _, _, e => .inr e
  | _, _, .same _, 0, _, e => .inr e
  | _, _, .same h, i + 1, y, e => h.get i y e
  | _, _, .un _, 0, _, e => .inl (Option.some.inj e).symm
  | _, _, .un h, i + 1, y, e => h.get i y e
theorem Nx.wk {c : Cfg} {δ δ' : List Sd} {Q : L2.St → Hp → Prop} (h : Nx c δ' Q) (hw : Wk δ' δ := by repeat first | exact .nil | refine .same ?_ | refine .un ?_) : Nx c δ Q := h.weak hw.len hw.get
theorem WS.wk {X : Cx} {c : Cfg} {δ δ' : List Sd} {rest : List Stmt} {Dn : Ends} (h : WS X c δ' rest Dn) (hw : Wk δ' δ := by repeat first | exact .nil | refine .same ?_ | refine .un ?_) : WS X c δ rest Dn := WS.weak h hw.len hw.get
/-! ### what data are -/
def isIntD : D → Bool
  | .int _ => true
  | _ => false
def isBoolD : D → Bool
  | .bool _ => true
  | _ => false
def isTupD : D → Bool
  | .tuple _ => true
  | _ => false
def isIB : D → Bool
  | .int _ => true
  | .bool _ => true
  | _ => false
theorem kit_int (d : D) : kitB (tyD d) "int" = some (isIB d) := by
  cases d <;> first | (show kitB "NoneType" "int" = _; decide +kernel) | (show kitB "bool" "int" = some true; decide +kernel) | (show kitB "int" "int" = some true; decide +kernel) | (show kitB "str" "int" = some false; decide +kernel) | (show kitB "list" "int" = some false; decide +kernel) | (show kitB "tuple" "int" = some false; decide +kernel) | (show kitB "dict" "int" = some false; decide +kernel)
theorem kit_bool (d : D) : kitB (tyD d) "bool" = some (isBoolD d) := by
  cases d <;> first | (show kitB "NoneType" "bool" = some false; decide +kernel) | (show kitB "bool" "bool" = some true; decide +kernel) | (show kitB "int" "bool" = some false; decide +kernel) | (show kitB "str" "bool" = some false; decide +kernel) | (show kitB "list" "bool" = some false; decide +kernel) | (show kitB "tuple" "bool" = some false; decide +kernel) | (show kitB "dict" "bool" = some false; decide +kernel)
theorem kit_tup (d : D) : kitB (tyD d) "tuple" = some (isTupD d) := by
  cases d <;> first | (show kitB "NoneType" "tuple" = some false; decide +kernel) | (show kitB "bool" "tuple" = some false; decide +kernel) | (show kitB "int" "tuple" = some false; decide +kernel) | (show kitB "str" "tuple" = some false; decide +kernel) | (show kitB "list" "tuple" = some false; decide +kernel) | (show kitB "tuple" "tuple" = some true; decide +kernel) | (show kitB "dict" "tuple" = some false; decide +kernel)
end Fs

set_option Elab.async false
set_option linter.all false
set_option maxRecDepth 100000
set_option maxHeartbeats 4000000
/-! Firesseen: the end: what the top leaves, by a Hook of our own. -/
namespace Fs
open PySem PySem.Spec PyProof.Rows L2
abbrev KOf (n : Nat) (g : Addr → Option Obj) : PySem.W.Frag := He.frT g (cStatics :: He.asD g n)
def baC (K : PySem.W.Frag) : Addr := He.ga K "BadArgument"
def baI (K : PySem.W.Frag) : Addr := He.ma K (baC K) "__init__"
/-! ### __init__ of BadArgument -/
abbrev IV : Type := Option (Str × Str × Arguments × FuncBody × Scope × Addr × List Str × Addr)
def initW (K : PySem.W.Frag) : IV := match K.lookup (baI K) with
  | some ⟨_, _, .func fd, _⟩ => some (fd.name, fd.qualname, fd.params, fd.body, fd.scope, fd.globals, fd.closure.map (·.1), fd.builtins)
  | _ => none
def initV : IV := some ("__init__", "BadArgument.__init__", bA, .stmts bB, bS, mainGlobals, ["__class__"], builtinsNs)
def isNo : Value → Bool
  | .none => true
  | _ => false
def fileB (file : Str) (K : PySem.W.Frag) (cda : Addr) : Bool := match K.lookup cda with
  | some ⟨_, _, .fields vs, _⟩ => (match (vs[2]? : Option Value) with
    | some (.str f _) => file == f
    | _ => false)
  | _ => false
def cellB (K : PySem.W.Frag) (cl : List (Str × Addr)) : Bool := match cl with
  | [(_, cc)] => (match K.lookup cc with
    | some ⟨_, _, .cell (some (.ref C)), _⟩ => C == baC K
    | _ => false)
  | _ => false
def initB (file : Str) (K : PySem.W.Frag) : Bool := match K.lookup (baI K) with
  | some ⟨_, _, .func fd, _⟩ => isNo fd.defaults && (isNo fd.kwdefaults && (PySem.W.codeIn K fd.code "BadArgument.__init__" && ((match fd.code with
    | .ref c => fileB file K c
    | _ => false) && cellB K fd.closure)))
  | _ => false
def clsB (K : PySem.W.Frag) : Bool := match K.lookup (baC K) with
  | some ⟨.type "type", _, .cls cd, sl⟩ => (match cd.mro, sl.toList with
    | .ref C' :: bm, [_, _, _, _, some (.builtin n), _] => C' == baC K && (n == "ValueError.__new__" && (!cd.hasDel && (cd.hasDict && PySem.HandSPX.refsVE bm)))
    | _, _ => false)
  | _ => false
def badB (p : Program) (K : PySem.W.Frag) : Bool :=
  (He.Fa.glo "BadArgument").ok K && ((He.Fa.free "super").ok K && (clsB K && (initB p.main.file K && ((p.main.scope.names.lookup ("super" : Str)).isNone &&
  (He.eqO (PySem.W.findIn K (.ref (baC K)) "__setattr__") (some (some (.builtin "object.__setattr__"))) &&
  (He.eqO (PySem.W.findIn K (.ref (baC K)) "name") (some none) &&
  (He.eqO (PySem.W.findIn K (.ref (baC K)) "__init__") (some (some (.ref (baI K)))) &&
  (decide (PySem.W.typeIn K (.ref (baI K)) = some (.type "function")) &&
  (PySem.W.keepIn K (.ref (baC K)) &&
  (decide (PySem.W.typeIn K (.ref (baC K)) = some (.type "type")) &&
  (xfB K (baC K) &&
  (decide (PySem.W.exmOne K (.ref (baC K)) (.ref (baC K)) = some true) &&
  (decide (PySem.W.subIn K (.ref (baC K)) (.type "ValueError") = some true) &&
  (decide (PySem.W.mroIn K (baC K) (.ref (baC K)) = some true) &&
  (He.eqO (PySem.W.nsIn K cStatics "thirdparty.any") (some none) &&
  He.eqO (PySem.W.ks_superIn K (baC K) (baC K) "__init__") (some (some (.builtin "ValueError.__init__"))))))))))))))))))
theorem isNo_eq {v : Value} (h : isNo v = true) : v = .none := by
  cases v with
  | none => rfl
  | _ => cases h
section
open He
variable {K : PySem.W.Frag} {h : Heap} {mg : Str → Option Value}
theorem clsB_ok (q : clsB K = true) : ∃ nm q N bs bm sn sub ab col dd k0 k1 k2 k3 k5, K.lookup (baC K) = some (excClassObj nm q (baC K) N bs bm true sn sub ab col dd k0 k1 k2 k3 k5 "ValueError.__new__") ∧ PySem.HandSPX.refsVE bm = true := by
  unfold clsB at q
  split at q
  · rename_i dd cd sl ho
    split at q
    · rename_i C' bm k0 k1 k2 k3 n k5 hm hs
      obtain ⟨q1, q⟩ := ba q
      obtain ⟨q2, q⟩ := ba q
      obtain ⟨q3, q⟩ := ba q
      obtain ⟨q4, q5⟩ := ba q
      have e1 : C' = baC K := beq_iff_eq.mp q1
      have e2 : n = "ValueError.__new__" := beq_iff_eq.mp q2
      obtain ⟨nm, bs, mro, ns, qn, hd, sn, sub, ab, col, del⟩ := cd
      dsimp only at hm q3 q4
      have e3 : del = false := by simpa using q3
      subst hm e1 e2 e3 q4
      have hsl : sl = #[k0, k1, k2, k3, some (.builtin "ValueError.__new__"), k5] := by
        obtain ⟨l⟩ := sl
        simp only at hs
        rw [hs]
      subst hsl
      exact ⟨nm, qn, ns, bs, bm, sn, sub, ab, col, dd, k0, k1, k2, k3, k5, ho, q5⟩
    · cases q
  · cases q
theorem init_ok {file : Str} (e : initW K = initV) (q : initB file K = true) :
    ∃ (oc : Value) (od : Option Addr) (doc pm : Value) (an : Option Addr) (cda cc : Addr) (ct : Value) (osl : Array (Option Value)) (co : Value) (cd : Option Addr) (vs : Array Value) (cs : Array (Option Value)) (fl : Str) (tf : Tok) (cl : Value) (cld : Option Addr) (csl : Array (Option Value)),
    K.lookup (baI K) = some ⟨oc, od, .func (PySem.W.ksFn "__init__" "BadArgument.__init__" bA bB bS .none .none doc pm an (.ref cda) ct cc), osl⟩ ∧ PySem.W.codeIn K (.ref cda) "BadArgument.__init__" = true ∧
    K.lookup cda = some ⟨co, cd, .fields vs, cs⟩ ∧ vs[2]? = some (.str fl tf) ∧ ((file : Str) == fl) = true ∧ K.lookup cc = some ⟨cl, cld, .cell (some (.ref (baC K))), csl⟩ := by
  unfold initW at e
  unfold initB at q
  cases lk : K.lookup (baI K) with
  | none =>
    rw [lk] at q
    cases q
  | some o =>
    obtain ⟨oc, od, dt, osl⟩ := o
    rw [lk] at e q
    cases dt with
    | func fd =>
      obtain ⟨n1, n2, n3, n4, n5, n6, n7, n8, n9, n10, n11, n12, n13, n14, n15⟩ := fd
      have e2 : (some (n1, n2, n3, n4, n5, n6, n7.map (·.1), n15) : IV) = initV := e
      unfold initV at e2
      simp only [Option.some.injEq, Prod.mk.injEq] at e2
      obtain ⟨h1, h2, h3, h4, h5, h6, h7, h8⟩ := e2
      obtain ⟨q1, q⟩ := ba q
      obtain ⟨q2, q⟩ := ba q
      obtain ⟨q3, q⟩ := ba q
      obtain ⟨q4, q5⟩ := ba q
      dsimp only at q1 q2 q3 q4 q5
      have d1 := isNo_eq q1
      have d2 := isNo_eq q2
      match n7, h7, q5 with
      | [(y, cc)], h7, q5 =>
        have hy : y = "__class__" := by
          simpa using h7
        obtain ⟨c, rfl⟩ := codeIn_ref q3
        have q4' : fileB file K c = true := q4
        unfold fileB at q4'
        unfold cellB at q5
        dsimp only at q5
        split at q4'
        · rename_i co cd vs cs hc
          split at q4'
          · rename_i fl tf hv
            split at q5
            · rename_i cl cld C csl hcc
              have eC : C = baC K := beq_iff_eq.mp q5
              subst h1 h2 h3 h4 h5 h6 h8 d1 d2 hy eC
              exact ⟨oc, od, n10, n11, n12, c, cc, n14, osl, co, cd, vs, cs, fl, tf, cl, cld, csl, rfl, q3, hc, hv, q4', hcc⟩
            · cases q5
          · cases q4'
        · cases q4'
    | _ => cases q
theorem bad_ok {p : Program} (X : K.In h) (G : h.Ns mainGlobals mg) (e : initW K = initV) (q : badB p K = true) : BadTxt p K mg (baC K) (baI K) := by
  obtain ⟨c1, q⟩ := ba q
  obtain ⟨c2, q⟩ := ba q
  obtain ⟨c3, q⟩ := ba q
  obtain ⟨c4, q⟩ := ba q
  obtain ⟨c5, q⟩ := ba q
  obtain ⟨c6, q⟩ := ba q
  obtain ⟨c7, q⟩ := ba q
  obtain ⟨c8, q⟩ := ba q
  obtain ⟨c9, q⟩ := ba q
  obtain ⟨c10, q⟩ := ba q
  obtain ⟨c11, q⟩ := ba q
  obtain ⟨c12, q⟩ := ba q
  obtain ⟨c13, q⟩ := ba q
  obtain ⟨c14, q⟩ := ba q
  obtain ⟨c15, q⟩ := ba q
  obtain ⟨c16, c17⟩ := ba q
  exact {
    gC := glo_ok X G c1
    gS := free_ok X G c2
    cls := clsB_ok c3
    sa := eqO_ok c6
    noN := eqO_ok c7
    iC := eqO_ok c8
    tC := of_decide_eq_true c9
    kC := c10
    tyC := of_decide_eq_true c11
    xf := xfB_ok c12
    te := of_decide_eq_true c13
    sVE := of_decide_eq_true c14
    sCC := of_decide_eq_true c15
    nth := eqO_ok c16
    sup := eqO_ok c17
    top := by
      cases z : p.main.scope.names.lookup ("super" : Str) with
      | none => rfl
      | some _ => rw [z] at c5; cases c5
    fn := init_ok e c4 }
end
/-! ### the Hook -/
abbrev AlF : Type := (He.AlD × IV) × Bool
def obsF (n : Nat) (fa : List He.Fa) (fn : List He.DefD) (tf : List He.Defn) (ex : PySem.W.Frag → Bool) (g : Addr → Option Obj) : AlF :=
  ((He.obsD fa fn (KOf n g), initW (KOf n g)), ex (KOf n g) && He.tabsB g tf (KOf n g))
def valF (fn : List He.DefD) : AlF := ((He.valD fn, initV), true)
structure SaysF (fa : List He.Fa) (fn : List He.DefD) (tf : List He.Defn) (ex : PySem.W.Frag → Bool) (h : Heap) (K : PySem.W.Frag) : Prop where
  d : He.SaysD fa fn K
  ini : initW K = initV
  more : ex K = true
  hd : ∀ p ∈ tf, PySem.W.codeHdIn K (He.cT K p).1 (He.cT K p).2 = true
  out : ∀ p ∈ tf, K.lookup (He.cT K p).2 = none
  empty : ∀ p ∈ tf, h.get? (He.cT K p).2 = some { cls := .none, data := .fields #[] }
theorem saysF_of {n : Nat} {fa : List He.Fa} {fn : List He.DefD} {tf : List He.Defn} {ex : PySem.W.Frag → Bool} {h : Heap} (e : obsF n fa fn tf ex h.get? = valF fn) : SaysF fa fn tf ex h (KOf n h.get?) := by
  have e1 : He.obsD fa fn (KOf n h.get?) = He.valD fn := congrArg (fun z : AlF => z.1.1) e
  have e3 : initW (KOf n h.get?) = initV := congrArg (fun z : AlF => z.1.2) e
  have e2 : (ex (KOf n h.get?) && He.tabsB h.get? tf (KOf n h.get?)) = true := congrArg (fun z : AlF => z.2) e
  obtain ⟨h1, h2⟩ := He.ba e2
  have key : ∀ p ∈ tf, PySem.W.codeHdIn (KOf n h.get?) (He.cT (KOf n h.get?) p).1 (He.cT (KOf n h.get?) p).2 = true ∧ ∃ o, h.get? (He.cT (KOf n h.get?) p).2 = some o ∧ He.emptyTab o = true := fun p hp => by
    obtain ⟨h3, h4⟩ := He.ba (List.all_eq_true.mp h2 p hp)
    refine ⟨h3, ?_⟩
    cases q : h.get? (He.cT (KOf n h.get?) p).2 with
    | none =>
      rw [q] at h4
      cases h4
    | some o =>
      rw [q] at h4
      exact ⟨o, rfl, h4⟩
  exact ⟨e1, e3, h1, fun p hp => (key p hp).1, fun p hp => by
    obtain ⟨_, o, q, z⟩ := key p hp
    exact He.frT_none q z, fun p hp => by
    obtain ⟨_, o, q, z⟩ := key p hp
    rw [q, He.emptyTab_eq z]⟩
def hookF (n : Nat) (fa : List He.Fa) (fn : List He.DefD) (tf : List He.Defn) (ex : PySem.W.Frag → Bool) : PySem.W.Hook where
  α := AlF
  obs := fun s => obsF n fa fn tf ex s.heap.get?
  val := fun _ => valF fn
  says := fun _ h => ∃ K : PySem.W.Frag, K.In h ∧ SaysF fa fn tf ex h K
  of := fun _ _ e => ⟨_, He.frT_in, saysF_of e⟩
  keeps := fun _ _ _ ⟨K, hK, c⟩ k => ⟨K, PySem.W.Frag.In.keeps hK k, ⟨c.d, c.ini, c.more, c.hd, c.out, fun p hp => k _ _ (c.empty p hp)⟩⟩
theorem obsF_eq {n : Nat} {fa : List He.Fa} {fn : List He.DefD} {tf : List He.Defn} {ex : PySem.W.Frag → Bool} {g : Addr → Option Obj} {s : Shared} (h : ∀ a, g a = s.heap.get? a) : obsF n fa fn tf ex g = (hookF n fa fn tf ex).obs s := by
  have e : g = s.heap.get? := funext h
  rw [e] <;> rfl
/-! ### a def as it stands -/
abbrev dOf (x : Str) (st : Stmt) : He.DefD := ⟨(x, none), x, x, defArgs st, defBody st, defScope st, [], []⟩
section
variable {fa : List He.Fa} {fn : List He.DefD} {tf : List He.Defn} {ex : PySem.W.Frag → Bool} {h : Heap} {K : PySem.W.Frag} {mg : Str → Option Value} {e : En}
theorem fx_of (X : K.In h) (G : h.Ns mainGlobals mg) (c : SaysF fa fn tf ex h K) (eK : e.K = K) (em : e.mg = mg) (ec : ∀ x, e.ct x = He.cT K (x, none)) {x : Str} {st : Stmt} (i j : Nat) (hi : fa[i]? = some (.glo x) := by rfl) (hj : fn[j]? = some (dOf x st) := by rfl) : Fx e x st := by
  obtain ⟨fd, F⟩ := c.d.def_ j hj
  have g := He.glo_ok X G (c.d.fact i hi)
  subst eK em
  refine ⟨⟨_, fd, F, g, ?_⟩⟩
  obtain ⟨oc, od, dV, kV, doc, pm, an, cdv, ct, osl, rfl, lk, hcd, _, _⟩ := F.ex
  obtain ⟨cc, rfl⟩ := He.codeIn_ref hcd
  rw [ec]
  show Value.ref cc = .ref (He.codeOf e.K (x, none))
  rw [He.codeOf_eq (p := (x, none)) lk rfl]
theorem tb_of {T : List (Addr × Option Str)} {H : Hp} (hT : ∀ p ∈ T, H p.1 = some (.tbl #[])) : Tb T H := fun p hp => by
  unfold TbAt
  split
  · exact ⟨#[], hT p hp, True.intro⟩
  · exact LamX.TabS.nil (hT p hp)
end
end Fs

set_option Elab.async false
set_option linter.all false
set_option maxRecDepth 100000
set_option maxHeartbeats 4000000
/-! Firesseen: all(e for x in t), e may call. -/
namespace Fs
open PySem PySem.Spec L2 PyProof.Rows GenW

theorem inv_same {X : Cx} {pins : List (Addr × Obj)} {σ : L2.St} {H : Hp} {s s' : Shared} (I : Inv X pins σ H s) (h : s'.heap = s.heap) (o : s'.os = s.os) (g : AllBare s'.gens) : Inv X pins σ H s' := by
  obtain ⟨hp, gs, d, t, os⟩ := s'
  dsimp only at h o g
  subst h o
  exact ⟨I.ok, I.os, g, I.base, I.loc, I.cell, I.free, I.freeC, I.pin, I.hok, I.len⟩
/-- the context of a generator expression's own run: made at s, resumed in A' -/
abbrev GX (X : Cx) (A' : Around) (s : Shared) (H : Hp) (cenv : Env) (fp : List Addr) : Cx :=
  { X with A := A', s_0 := s, H_0 := H, env := cenv, outer := X.stack, stack := cenv :: X.stack, ex := fp, fn := fun _ => false, calm := true, pn := [], xe := fun _ _ => False }
abbrev gEnv (X : Cx) (scope : Scope) (L : Addr) (code : Value) : Env := genEnv scope (cloFrom X.env.cells scope.names []) L code builtinsNs X.env
section
variable {X : Cx} {pins : List (Addr × Obj)} {σ : L2.St} {H : Hp} {s s' : Shared}
theorem gen_start {scope : Scope} {own : List (Str × Nat)} {fp : List Addr} {A' : Around} {code : Value} {m : Str → Option Value} (I : Inv X pins σ H s) (ok : BlkOk X.N X.env.scope scope own) (hcell : ∀ y ∈ scope.names, y.2 ≠ .cell) (hN : X.N.Nodup) (hfp : ∀ b ∈ fp, FpOk X pins H b ∧ b < s.heap.objs.size)
    (hA : A'.handled = none) (hf : A'.frames = some (gEnv X scope s.heap.objs.size code :: X.stack)) (kp : ∀ b o, s.heap.get? b = some o → s'.heap.get? b = some o) (hos : s'.os = s.os) (hg : AllBare s'.gens) (hns : s'.heap.Ns s.heap.objs.size m) :
    Inv (GX X A' s H (gEnv X scope s.heap.objs.size code) fp) [] (L2.wipe σ (own.map (·.2))) H s' := by
  have capt : ∀ y c, (gEnv X scope s.heap.objs.size code).cells.lookup y = some c → scope.names.lookup y = some .free ∧ X.env.cells.lookup y = some c ∧ c < s.heap.objs.size := fun y c e => by
    rcases cloFrom_mem (PySem.mem_of_lookup e) with z | ⟨z1, z2⟩
    · cases z
    · have hx : X.env.kindOf y = some .cell ∨ X.env.kindOf y = some .free := ok.free _ z1 rfl
      obtain ⟨c', hc⟩ := I.ok.has y hx
      rw [hc] at z2
      have z3 : c = c' := z2
      subst z3
      obtain ⟨v, hv⟩ := I.cell y c hc
      exact ⟨ok.uniq _ z1, hc, hv.lt⟩
  have give : ∀ y, scope.names.lookup y = some .free → ∃ c, (gEnv X scope s.heap.objs.size code).cells.lookup y = some c := fun y e => mem_lookup (cloFrom_has (PySem.mem_of_lookup e))
  have okG : (GX X A' s H (gEnv X scope s.heap.objs.size code) fp).Ok := by
    constructor
    case mod => exact I.ok.mod
    case kind => exact ok.kind
    case glob => exact I.ok.glob
    case blt => rfl
    case above => exact Nat.le_refl _
    case inj => exact fun y z c e1 e2 => I.ok.inj y z c (capt y c e1).2.1 (capt z c e2).2.1
    case has =>
      intro y hy
      rcases hy with hy | hy
      · exact absurd rfl (hcell _ (PySem.mem_of_lookup (show scope.names.lookup y = some .cell from hy)))
      · exact give y hy
    case cab => exact fun y c z => by cases z
    case hd => exact fun _ => hA
    case frames => exact hf
    case stk => exact .inr ⟨rfl, rfl⟩
    case exf =>
      intro b hb
      refine ⟨Nat.ne_of_lt (hfp b hb).2, fun y c e => ?_⟩
      exact (hfp b hb).1.2.2.2.2.1 y c (capt y c e).2.1
    case bs => exact I.bs
    case bsz => exact Nat.le_trans I.ok.bsz I.sz
    case noex =>
      intro b o e hb
      rcases (hfp b hb).1.2.2.2.1 with z | z
      · exact I.ok.noex b o e z
      · exact absurd (Nat.lt_of_lt_of_le (Heap.lt_size e) (Nat.le_trans I.ok.bsz z)) (Nat.lt_irrefl _)
    case exfs =>
      intro b hb z
      rcases List.mem_cons.mp (I.stkSub b z) with z | z
      · exact (hfp b hb).1.2.1 z
      · exact (hfp b hb).1.2.2.1 z
    case funs => exact I.stack
    case frf => exact I.stkFree
  constructor
  case ok => exact okG
  case os => exact hos
  case bare => exact hg
  case base => exact Un.kept kp
  case loc =>
    refine ⟨m, hns, fun i y av e1 e2 e3 => ?_⟩
    obtain ⟨e2, hne⟩ := wipe_some e2
    have no : ∀ k, scope.names.lookup y = some k → ¬ (k = .local ∨ k = .cell) := fun k hk hh => by
      rcases ok.own _ (PySem.mem_of_lookup hk) hh with e' | e'
      · obtain ⟨p, hp, hpy⟩ := List.mem_map.mp e'
        have e4 := ok.ix p hp
        have hpy : p.1 = y := hpy
        rw [hpy] at e4
        exact hne (List.mem_map.mpr ⟨p, hp, nodup_ix hN e4 e1⟩)
      · exact e' (List.mem_of_getElem? e1)
    have hfr : scope.names.lookup y = some .free := by
      rcases e3 with z | z | z
      · exact absurd (.inl rfl) (no _ z)
      · exact absurd (.inr rfl) (no _ z)
      · exact z
    obtain ⟨c, hc⟩ := give y hfr
    obtain ⟨_, hc2, _⟩ := capt y c hc
    obtain ⟨m0, hn0, hl⟩ := I.loc
    have hk := ok.free _ (PySem.mem_of_lookup hfr) rfl
    have hvis : Vis X.env.scope y := hk.elim (fun k => .inr (.inl k)) (fun k => .inr (.inr k))
    obtain ⟨w, r, q⟩ := hl i y av e1 e2 hvis
    refine ⟨w, r, .inr ⟨.inr hfr, c, hc, ?_⟩⟩
    rcases q with ⟨k, _⟩ | ⟨_, c', e', z⟩
    · have k : X.env.scope.names.lookup y = some .local := k
      rcases hk with k' | k' <;> rw [show X.env.scope.names.lookup y = _ from k'] at k <;> cases k
    · rw [hc2] at e'
      cases e'
      exact z.keeps kp
  case cell =>
    intro y c e
    obtain ⟨v, z⟩ := I.cell y c (capt y c e).2.1
    exact ⟨v, z.keeps kp⟩
  case free => exact I.hok.fresh (Nat.le_refl _)
  case freeC => exact fun y c e => I.freeC y c (capt y c e).2.1
  case pin => exact fun p hp => absurd (show p ∈ ([] : List (Addr × Obj)) ++ [] from hp) (by simp)
  case hok => exact I.hok.kept kp
  case len => rw [wipe_length]; exact I.len
theorem over_genL {A : Around} {elt : Expr} {gs : List Comprehension} {scope : Scope} {pos : Pos} {it acc : Value} {env : Env} : A.over (.compLoop (.GeneratorExp elt gs scope pos) 0 it acc env) [] = A.deeper env := by
  first
    | rfl
    | (obtain ⟨hd, d, fr, gs, u⟩ := A; simp [Around.over, Around.deeper, marksOver, frameCount, unitsOf, envsOf, guardsOf, pushEnvs, pushGuards, Code.envs, Code.env?, Code.isFrame, Code.guards, Code.isGuard, Code.weight, Code.frames, Code.isCreation, Code.isCaller, Code.cUnits])
theorem over_genS {A : Around} {elt : Expr} {gs : List Comprehension} {scope : Scope} {pos : Pos} {it acc : Value} {env : Env} : A.over (.compStart (.GeneratorExp elt gs scope pos) 0 it acc env) [] = A.deeper env := by
  first
    | rfl
    | (obtain ⟨hd, d, fr, gs, u⟩ := A; simp [Around.over, Around.deeper, marksOver, frameCount, unitsOf, envsOf, guardsOf, pushEnvs, pushGuards, Code.envs, Code.env?, Code.isFrame, Code.guards, Code.isGuard, Code.weight, Code.frames, Code.isCreation, Code.isCaller, Code.cUnits])
/-- what is known outside while the generator sleeps or has ended: B the state ahead of it -/
structure Out (X : Cx) (fp : List Addr) (B : Shared) (HB H : Hp) (s : Shared) : Prop where
  os : s.os = B.os
  un : Un (frs X.stack) fp HB H B.heap s.heap
  hok : HOk X.prog X.w H s.heap
theorem Out.inv {fp : List Addr} {B : Shared} {HB : Hp} (O : Out X fp B HB H s) (I : Inv X pins σ HB B) (hfp : ∀ b ∈ fp, FpOk X pins HB b) {h' : Heap} {s' : Shared} (k : ∀ b o, s.heap.get? b = some o → h'.get? b = some o) (hh : s'.heap = h') (ho : s'.os = s.os) (hg : AllBare s'.gens) : Inv X pins σ H s' := by
  subst hh
  exact I.call' (ch := fp) (ho.trans O.os) (O.un.trans (Un.kept k)) (O.hok.kept k) hg fun b hb => ⟨(hfp b hb).2.2.2.1, (hfp b hb).2.1, (hfp b hb).2.2.2.2.1, (hfp b hb).2.2.2.2.2⟩
def aR (X : Cx) (fp : List Addr) (B : Shared) (HB : Hp) (Q : VK) : GenEnd := fun n s₀ r s => r = .ok .next ∧ ∃ H, Out X fp B HB H s ∧ AllBare s.gens ∧ Q (.bl true) H
def aY (X : Cx) (fp : List Addr) (B : Shared) (HB : Hp) (a : Addr) (g : Nat) (Q : VK) : Protocol := fun m s₀ v s kap => ∃ (y : Bool) (H : Hp), v = .bool y ∧ Out X fp B HB H s ∧ AllBare s.gens ∧ s.heap.IsGen a g ∧ s.heap.NoLimit ∧ (y = false → Q (.bl false) H) ∧
  (y = true → ∀ s'', s''.heap = s.heap → s''.os = s.os → AllBare s''.gens → kap (.send .none) s'')
/-- the consumer -/
theorem all_run {fp : List Addr} {B : Shared} {HB : Hp} {a : Addr} {g : Nat} {Q : VK} {A : Around} {R : Result → Shared → Prop} (I : Inv X pins σ HB B) (hfp : ∀ b ∈ fp, FpOk X pins HB b) (hh : A.handled = none) (hd : A.depth < recursionLimit)
    (hR : ∀ (y : Bool) H s', Inv X pins σ H s' → Q (.bl y) H → R (.ok (.ret (.bool y))) s') :
    ∀ (m : Nat) (s : Shared), s.heap.IsGen a g → s.heap.NoLimit → AllBare s.gens → (∃ gs, s.gens[g]? = some gs ∧ gs.Goes (model X.prog X.w) A.in1.in1 (aR X fp B HB Q) (aY X fp B HB a g Q) m (.send .none) (s.setGen g .running)) →
      codeAny (model X.prog X.w) A (.builtin "all.loop" ⟨[.ref a], []⟩) R s := by
  intro m
  induction m with
  | zero =>
    intro s hg hl hb ⟨gs, hgs, hgo⟩
    refine codeAny_builtin F.entry_all_loop ?_
    rw [Around.under_plainId F.plain_all_loop _]
    show wpAny _ A.in1 (pyNext (.ref a) >>= _) _ _ s
    refine wpAny_bind (wpAny_pyNext_genexpQ (A := A.in1) hh hl hd hg hgs (P := fun n s₀ s => ∃ H, Out X fp B HB H s ∧ AllBare s.gens ∧ Q (.bl true) H) hgo (fun v s₁ gs' hbare hv => ?_) (fun s₁ hp h' hk => ?_))
    · obtain ⟨y, H1, rfl, O, b1, g1, l1, qf, qt⟩ := hv
      refine wpAny_bind (wpAny_holding (wpAny_truthy_bool ?_))
      refine wpAny_bind (wpAny_letGo ?_)
      cases y with
      | true => exact False.elim (qt rfl s₁ rfl rfl b1)
      | false =>
        simp only [Bool.false_eq_true, if_false]
        refine wpAny_bind (wpAny_rule (wpAny_pure ?_))
        exact hR false H1 _ (O.inv I hfp (fun _ _ e => e) rfl rfl (allBare_setGen b1 hbare)) (qf rfl)
    · obtain ⟨H1, O, b1, q⟩ := hp
      refine wpAny_bind (wpAny_rule (wpAny_pure ?_))
      exact hR true H1 _ (O.inv I hfp hk rfl rfl (allBare_setGen b1 rfl)) q
  | succ m ih =>
    intro s hg hl hb ⟨gs, hgs, hgo⟩
    have hgl : g < s.gens.size := (Array.getElem?_eq_some_iff.mp hgs).1
    refine codeAny_builtin F.entry_all_loop ?_
    rw [Around.under_plainId F.plain_all_loop _]
    show wpAny _ A.in1 (pyNext (.ref a) >>= _) _ _ s
    refine wpAny_bind (wpAny_gsz (n := g + 1) hgl (wpAny_pyNext_genexpQ (A := A.in1) hh hl hd hg hgs (P := fun n s₀ s => ∃ H, Out X fp B HB H s ∧ AllBare s.gens ∧ Q (.bl true) H) hgo (fun v s₁ gs' hbare hv => ?_) (fun s₁ hp h' hk => ?_)))
    · intro hsz
      obtain ⟨y, H1, rfl, O, b1, g1, l1, qf, qt⟩ := hv
      refine wpAny_bind (wpAny_holding (wpAny_truthy_bool ?_))
      refine wpAny_bind (wpAny_letGo ?_)
      cases y with
      | true =>
        simp only [if_true]
        have hsz1 : g < s₁.gens.size := by
          have q : (s₁.setGen g gs').gens.size = s₁.gens.size := setGen_size _ _ _
          omega
        refine wpAny_pure ⟨plainId_quiet F.plain_all_loop _, ih _ g1 l1 (allBare_setGen b1 hbare) ⟨gs', setGen_at hsz1, ?_⟩⟩
        exact qt rfl _ rfl rfl (allBare_setGen (allBare_setGen b1 hbare) rfl)
      | false =>
        simp only [Bool.false_eq_true, if_false]
        refine wpAny_bind (wpAny_rule (wpAny_pure ?_))
        exact hR false H1 _ (O.inv I hfp (fun _ _ e => e) rfl rfl (allBare_setGen b1 hbare)) (qf rfl)
    · intro hsz
      obtain ⟨H1, O, b1, q⟩ := hp
      refine wpAny_bind (wpAny_rule (wpAny_pure ?_))
      exact hR true H1 _ (O.inv I hfp hk rfl rfl (allBare_setGen b1 rfl)) q

/-- the generator's own run -/
theorem seg_all {elt tg iter : Expr} {scope : Scope} {gpos : Pos} {fp : List Addr} {B : Shared} {HB : Hp} {a it : Addr} {g n : Nat} {go : Obj} {J : It} {tn : Nat → Heap → Prop} {Q : VK} {A : Around} {cenv : Env} {vs : List Nat} {gt : TG} {te : TE} {W : Nat → Hp → Prop}
    (hCx : PG (GX X (A.deeper cenv) B HB cenv fp) tg gt) (hCe : PE (GX X (A.deeper cenv) B HB cenv fp) elt te) (hco : cenv.scope.isCoroutine = false) (T : Turn X.prog X.w X.K tg J fp it tn)
    (haf : a ∉ fp) (hgo : ∀ h : Heap, h.get? a = some go → h.IsGen a g) (hW : ∀ i H, W i H → i ≤ n ∧ ((i = n ∧ J.stop i H ∧ Q (.bl true) H) ∨ (i < n ∧ J.go i H ∧ ∀ x H', J.yld i H x H' → gt x (L2.wipe σ vs) H' fun σ2 H2 => L2.wipe σ2 vs = L2.wipe σ vs ∧ te σ2 H2 fun y H3 => ∃ b, y = .bl b ∧ (b = true → W (i + 1) H3) ∧ (b = false → Q (.bl false) H3)))) :
    ∀ (m i : Nat) (s₀ s : Shared) (H : Hp), i + m = n → Inv (GX X (A.deeper cenv) B HB cenv fp) [(a, go)] (L2.wipe σ vs) H s → tn i s.heap → (∀ b ∈ fp, H b = none) → W i H →
      Seg (model X.prog X.w) A (aR X fp B HB Q) (aY X fp B HB a g Q) m s₀ (.compLoop (.GeneratorExp elt [⟨tg, iter, [], 0⟩] scope gpos) 0 (.ref it) .none cenv)
        ((model X.prog X.w).den (.compLoop (.GeneratorExp elt [⟨tg, iter, [], 0⟩] scope gpos) 0 (.ref it) .none cenv)) [] s := by
  have pinOk : ∀ {H' : Hp} {s' : Shared} {σ' : L2.St} {pl : List (Addr × Obj)}, Inv (GX X (A.deeper cenv) B HB cenv fp) ((a, go) :: pl) σ' H' s' → s'.heap.get? a = some go := fun I => (I.pin (a, go) (List.mem_append_right _ List.mem_cons_self)).1
  have stat : ∀ {H' : Hp} {s' : Shared} {σ' : L2.St}, Inv (GX X (A.deeper cenv) B HB cenv fp) [(a, go)] σ' H' s' → (∀ b ∈ fp, H' b = none) → ∀ b ∈ fp, FpOk (GX X (A.deeper cenv) B HB cenv fp) [(a, go)] H' b := fun I' hn b hb =>
    ⟨hn b hb, (I'.ok.exf b hb).1, I'.ok.exfs b hb, .inl hb, fun x c e => (I'.ok.exf b hb).2 x c e, fun p hp z => by
      have e : p = (a, go) := by simpa using hp
      rw [e] at z
      exact haf (by rw [show a = b from z]; exact hb)⟩
  have out : ∀ {H' : Hp} {s' : Shared} {σ' : L2.St} {pl : List (Addr × Obj)}, Inv (GX X (A.deeper cenv) B HB cenv fp) pl σ' H' s' → Out X fp B HB H' s' := fun I => ⟨I.os, I.base, I.hok⟩
  intro m
  induction m with
  | zero =>
    intro i s₀ s H hi I st nf w
    show Seg _ A _ _ _ s₀ _ ((compTurn (.GeneratorExp elt [⟨tg, iter, [], 0⟩] scope gpos) 0 (.ref it) .none cenv).onRaise (leaving cenv)) [] s
    rw [compTurn_gen, Sem.onRaise_eq_wrap]
    refine seg_bind_wrap (wpAny_standAt ?_)
    rcases (hW i H w).2 with ⟨hn, stop, q⟩ | ⟨hn, _⟩
    · refine seg_bind_wrap ?_
      rw [over_genL]
      refine wpAny_mono (T.done (GX X (A.deeper cenv) B HB cenv fp) rfl rfl rfl rfl i _ s _ H (fun _ _ => False) I (stat I nf) st stop) (fun r s1 ⟨hr, I1⟩ => ?_) fun _ _ z => z.elim
      subst hr
      exact seg_end (.ok .next) ⟨rfl, H, out I1, I1.bare, q⟩
    · omega
  | succ m ih =>
    intro i s₀ s H hi I st nf w
    show Seg _ A _ _ _ s₀ _ ((compTurn (.GeneratorExp elt [⟨tg, iter, [], 0⟩] scope gpos) 0 (.ref it) .none cenv).onRaise (leaving cenv)) [] s
    rw [compTurn_gen, Sem.onRaise_eq_wrap]
    refine seg_bind_wrap (wpAny_standAt ?_)
    refine seg_bind_wrap ?_
    rw [over_genL]
    rcases (hW i H w).2 with ⟨hn, _⟩ | ⟨hn, go', step⟩
    · omega
    have ti := fun E => T.item (GX X (A.deeper cenv) B HB cenv fp) rfl rfl rfl rfl i _ s _ H E I (stat I nf) st go'
    refine wpAny_mono (ti (fun _ _ => False)) (fun r s6 ⟨u, hr, h6⟩ => ?_) fun _ _ z => z.elim
    subst hr
    refine seg_bind_wrap ?_
    rw [over_genL]
    refine wpAny_mono h6 (fun _ s7 ⟨x, H7, I7, r7, y7, st7, n7⟩ => ?_) fun _ _ z => z.elim
    have I7' := I7.pinned (stat I7 n7) (T.obj _ _ st7)
    refine seg_bind_wrap ?_
    rw [over_genL]
    refine wpAny_mono (hCx.run _ s7 _ H7 x u _ I7' r7 (step x H7 y7)) (fun _ s8 ⟨σ8, H8, I8, hw8, q8⟩ => ?_) fun _ _ z => z.elim
    refine seg_bind_wrap ?_
    rw [over_genL]
    refine wpAny_pure ?_
    have hy : ∀ v, yieldOut cenv v = yieldValue v := fun v => by simp only [yieldOut, hco, Bool.false_eq_true, if_false]
    simp only [if_true, hy]
    rw [Sem.bind_eq_wrap', Sem.bind_eq_wrap', Sem.wrap_wrap, Sem.wrap_wrap]
    refine seg_wrap ?_
    rw [over_genL]
    refine wpAny_mono (hCe.run _ s8 σ8 H8 _ I8 q8) (fun yv s9 ⟨y, H9, I9, r9, b, yb, q1, q2⟩ => ?_) fun _ _ z => z.elim
    subst yb
    obtain rfl : yv = .bool b := r9
    have hl : (L2.wipe σ vs).length = σ8.length := by rw [← hw8, wipe_length]
    have pin' : ∀ b ∈ fp, ∀ o, s7.heap.get? b = some o → s9.heap.get? b = some o ∧ H9 b = none := fun b hb o e =>
      let z := I9.pin (b, o) (List.mem_append_right _ (List.mem_append_right _ (mem_pinsAt hb e)))
      ⟨z.1, z.2.1⟩
    have I9' : Inv (GX X (A.deeper cenv) B HB cenv fp) [(a, go)] (L2.wipe σ vs) H9 s9 := (I9.unpinned (pins := [(a, go)])).weak hl fun j v e => by
      rw [← hw8] at e
      exact (wipe_some e).1
    refine seg_at (seg_yield rfl rfl rfl ⟨b, H9, rfl, out I9', I9'.bare, hgo _ (pinOk I9'), I9'.nolimit, q2, fun hb s'' h1 h2 h3 => ?_⟩)
    refine seg_again rfl (ih (i + 1) s'' s'' H9 (by omega) (inv_same I9' h1 h2 h3) ?_ (fun b hb => ?_) (q1 hb))
    · exact T.keep _ _ _ st7 fun b hb o e => by rw [h1]; exact (pin' b hb o e).1
    · obtain ⟨o, e, _⟩ := T.obj _ _ st7 b hb
      exact (pin' b hb o e).2
end
/-- the table at P has grown -/
theorem stp_tab {T : List (Addr × Option Str)} {Mx : List Addr} {F H H' : Hp} {P : Addr} {ps ps' : Array Value} (hF : Fz F H) (hT : Tb T H) (hP : H P = some (.tbl ps)) (hno : ∀ q, (P, some q) ∉ T) (h1 : H' P = some (.tbl ps')) (h2 : TriplesOk ps'.toList) (h3 : ∀ b, b ≠ P → H' b = H b) : Stp T Mx F H F H' := by
  have nP : ∀ b u, H b = some u → (∀ q, u ≠ .tbl q) → b ≠ P := fun b u e q z => by
    rw [z, hP] at e
    exact q ps (Option.some.inj e).symm
  refine ⟨Sub.refl F, fun a o e => ?_, fun a o e _ n => ?_, fun a e => ?_, fun a o e => .inl e, fun q hq => ?_⟩
  · obtain ⟨z1, z2⟩ := hF a o e
    exact ⟨by rw [h3 a (nP a o z1 z2)]; exact z1, z2⟩
  · rw [h3 a (nP a o e n)]
    exact e
  · by_cases z : a = P
    · rw [z, h1] at e; cases e
    · rw [h3 a z] at e; exact e
  · have t := hT q hq
    by_cases z : q.1 = P
    · obtain ⟨q1, q2⟩ := q
      dsimp only at z
      subst z
      cases q2 with
      | none => exact ⟨ps', h1, h2⟩
      | some x => exact absurd hq (hno x)
    · exact t.ext (h3 _ z) fun b o e n => by rw [h3 b (nP b o e n)]; exact e
theorem boot_all : bootBuiltins "all" = some (.builtin "all") := by decide +kernel
section
variable {X : Cx} {c : Cfg} {δ : List Sd}
theorem room_gen {k : Nat} {A : Around} (r : Room (k + 1) A) (env : Env) : Room k (A.in1.in1.deeper env) :=
  ⟨r.hd, by have := r.dp; show A.depth + 1 + 3 * k + 5 < _; omega, by have := r.un; show A.units + 1 + 1 + 3 + 16 * k + 200 < _; omega⟩
/-- all(elt for tg in iter) -/
theorem ed_allG {elt tg iter : Expr} {scope : Scope} {own : List (Str × Nat)} {gpos p pos : Pos} {cc P : Addr} {ds : List D} {f : D → Bool} {δx : D → List Sd} {k : Nat} (hN : X.N.Nodup) (ok : BlkOk X.N X.env.scope scope own)
    (TB : GxR.TabB X.base X.mg cc P) (hcode : X.env.code = .ref cc) (hP : (P, none) ∈ c.T) (hno : ∀ q, (P, some q) ∉ c.T) (hr : Room (k + 1) X.A) (hi : EIF X c δ tg iter ds)
    (hg : ∀ x, x ∈ ds → ∀ A' s H L code fp, EG (GX X A' s H (gEnv X scope L code) fp) c (wipeD δ (own.map (·.2))) tg x (own.map (·.2)) (δx x))
    (he : ∀ x, x ∈ ds → ∀ A' s H L code fp, Room k A' → ED (GX X A' s H (gEnv X scope L code) fp) c (δx x) elt (.bool (f x)))
    (hm : X.mg "all" = none) (hgl : Gl X "all" := by rfl) (hcell : ∀ y ∈ scope.names, y.2 ≠ .cell := by decide +kernel) (hsc : scope.isCoroutine = false := by rfl) (hdot : scope.names.lookup (".0" : Str) = some NameKind.local := by rfl) (hs : ∀ v, genFold iter X.env v = pure v := by intro _; rfl)
    (hst : starEach [.GeneratorExp elt [⟨tg, iter, [], 0⟩] scope gpos] X.env = (false, eval (.GeneratorExp elt [⟨tg, iter, [], 0⟩] scope gpos) X.env) :: starEach [] X.env := by rfl) :
    ED X c δ (.Call (.Name "all" p) [.GeneratorExp elt [⟨tg, iter, [], 0⟩] scope gpos] [] pos) (.bool (ds.all f)) := fun F H σ Q S q pins s I => by
  have hfree : ∀ y ∈ scope.names, y.2 = .free → ∃ c, X.env.cells.lookup y.1 = some c := fun y hy e => I.ok.has _ (ok.free y hy e)
  refine wpAny_Call_Name_kw (ld_blt I hgl hm boot_all ?_)
  refine PyProof.Rows.callWith_builtin1 ?_ hst (by rfl)
  rw [hst]
  show wpAny _ _ (spliced ((false, eval (.GeneratorExp elt [⟨tg, iter, [], 0⟩] scope gpos) X.env) :: backTo pos (starEach [] X.env))) _ _ s
  refine Calls.spliced_cons (wpAny_GeneratorExp_make hsc (closure_ok hfree) hcell hdot ok.kind hr.depth ?_ hs)
  refine wpAny_mono (hi F H σ (fun J H1 => ∃ F1, Stp c.T [] F H F1 H1 ∧ ItF c.T J F1 ds) S (fun J F1 H1 s1 w => ⟨F1, s1, w⟩) pins s I) (fun xv s1 h1 => wpAny_mono h1 (fun itv s2 h2 => ?_) fun _ _ e => e) fun _ _ e => e
  obtain ⟨it, fp, tn, J, H1, rfl, I1, T, st, f1, F1, st1, w1⟩ := h2
  refine ⟨I1.nolimit, ?_⟩
  obtain ⟨ps, hP1, htr⟩ : ∃ ps : Array Value, H1 P = some (.tbl ps) ∧ TriplesOk ps.toList := st1.tb (P, none) hP
  have nP : ∀ b, H1 b = none → b ≠ P := fun b e z => by
    rw [z, hP1] at e
    cases e
  have cont : ∀ (code : Value) (h3 : Heap) (tk : Nat) (ps' : Array Value), Inv X pins σ (upd H1 P (.tbl ps')) { s2 with heap := h3, toks := tk } → TriplesOk ps'.toList → (∀ b o, b ≠ P → s2.heap.get? b = some o → h3.get? b = some o) →
      wpAny (model X.prog X.w) X.A (builtinsFor X.env.globals X.env.builtins) (fun bi s₄ =>
        ∀ h', h'.Ns s₄.heap.objs.size (fun y => if y = ".0" then some (.ref it) else none) → Heap.SameBut s₄.heap.objs.size (s₄.heap.push { cls := .type "frame", data := .dict #[] }) h' →
          (fun v s₁ => wpAny (model X.prog X.w) X.A (spliced (backTo pos (starEach [] X.env))) (fun vs s₂ => wpAny (model X.prog X.w) X.A (call (.builtin "all") (v :: vs)) (EP X pins σ Q) X.xe s₂) X.xe s₁) (.ref h'.objs.size) { s₄ with
            gens := s₄.gens.push (.fresh (.compStart (.GeneratorExp elt [⟨tg, iter, [], 0⟩] scope gpos) 0 (.ref it) .none (genEnv scope (cloFrom X.env.cells scope.names []) s₄.heap.objs.size code bi X.env))),
            toks := s₄.toks + 1 + 1 + 1,
            heap := h'.push { cls := .type "generator", data := .fields #[.int s₄.gens.size 0, .str "<genexpr>" (s₄.toks + 1), .str (X.env.qual ++ "<genexpr>") (s₄.toks + 1 + 1)] } }) X.xe { s2 with heap := h3, toks := tk } := by
    intro code h3 tk ps' I3 ht3 k3
    obtain ⟨bm, ob, e1, e2, e3, e4, e5, e6, e7, e8⟩ := TB.bm
    refine wpAny_builtinsFor (m := X.mg) (by rw [I3.ok.glob]; exact ns_keep I3.mod.glob I3.bk) e1 e2 (I3.bk _ _ e5) e6 e7 e8 ?_
    intro h' hns hsb
    generalize hs3 : ({ s2 with heap := h3, toks := tk } : Shared) = s3 at *
    generalize hgo : ({ cls := .type "generator", data := .fields #[.int s3.gens.size 0, .str "<genexpr>" (s3.toks + 1), .str (X.env.qual ++ "<genexpr>") (s3.toks + 1 + 1)] } : Obj) = go
    generalize hH3 : upd H1 P (.tbl ps') = H3 at I3
    have sz' : h'.objs.size = s3.heap.objs.size + 1 := by rw [hsb.1, Heap.size_push]
    have kp' : ∀ b o, s3.heap.get? b = some o → (h'.push go).get? b = some o := fun b o e => Heap.get?_push_of_some _ (hsb.extBut b o (Nat.ne_of_lt (Heap.lt_size e)) (Heap.get?_push_of_some _ e))
    have fP : ∀ b ∈ fp, b ≠ P := fun b hb => nP b (f1 b hb).1
    have f3 : ∀ b ∈ fp, FpOk X pins H3 b := fun b hb => ⟨by rw [← hH3, upd_ne (fP b hb)]; exact (f1 b hb).1, (f1 b hb).2⟩
    have sz3 : ∀ b ∈ fp, b < s3.heap.objs.size := fun b hb => by
      obtain ⟨o, e, _⟩ := T.obj _ _ st b hb
      have := k3 b o (fP b hb) e
      have z : s3.heap.get? b = some o := by rw [← hs3]; exact this
      exact Heap.lt_size z
    have hgf : go.isFreed = false := by rw [← hgo]; rfl
    have st5 : tn 0 (h'.push go) := T.keep _ _ _ st fun b hb o e => kp' b o (by rw [← hs3]; exact k3 b o (fP b hb) e)
    have hos3 : s3.os = s.os := by rw [← I3.os.symm, I.os]
    have I5 : ∀ s5 : Shared, s5.heap = h'.push go → s5.os = s3.os → AllBare s5.gens → Inv (GX X (X.A.in1.in1.deeper (gEnv X scope s3.heap.objs.size code)) s3 H3 (gEnv X scope s3.heap.objs.size code) fp) [(h'.objs.size, go)] (L2.wipe σ (own.map (·.2))) H3 s5 := fun s5 z1 z2 z3 => by
      have J := gen_start (s' := s5) (m := fun y => if y = ".0" then some (.ref it) else none) (A' := X.A.in1.in1.deeper (gEnv X scope s3.heap.objs.size code)) (code := code) I3 ok hcell hN (fun b hb => ⟨f3 b hb, sz3 b hb⟩) hr.hd (Around.frames_deeper I3.ok.frames)
        (fun b o e => by rw [z1]; exact kp' b o e) z2 z3 (by rw [z1]; exact hns.push go)
      refine J.pins_of fun p hp => ?_
      have ep : p = (h'.objs.size, go) := by simpa using hp
      subst ep
      refine ⟨by rw [z1]; exact Heap.get?_push_size _ hgf, I3.hok.fresh (by omega), ?_, fun hz => ?_, fun v z => ?_⟩
      · show h'.objs.size ≠ s3.heap.objs.size
        omega
      · obtain ⟨_, o, ho, _⟩ := I3.stack.mem hz
        have z : (h'.objs.size : Nat) < s3.heap.objs.size := Heap.lt_size ho
        omega
      · rw [← hgo] at z
        cases z
    have hgen : ∀ h : Heap, h.get? h'.objs.size = some go → h.IsGen h'.objs.size s3.gens.size := fun h e => ⟨go, _, _, e, by rw [← hgo], by rw [← hgo], by rw [← hgo]⟩
    have st13 : Stp c.T [] F1 H1 F1 H3 := by
      rw [← hH3]
      exact stp_tab st1.fz st1.tb hP1 hno upd_same ht3 fun b hb => upd_ne hb
    have loop := seg_all (X := X) (σ := σ) (elt := elt) (tg := tg) (iter := iter) (scope := scope) (gpos := gpos) (fp := fp) (B := s3) (HB := H3) (a := h'.objs.size) (it := it) (g := s3.gens.size) (n := ds.length) (go := go) (J := J) (tn := tn) (Q := Q) (A := X.A.in1.in1)
      (cenv := gEnv X scope s3.heap.objs.size code) (vs := own.map (·.2)) (W := fun i H' => i ≤ ds.length ∧ (ds.take i).all f = true ∧ ∃ F', Stp c.T [] F1 H3 F' H') (sG tg) (sE elt) hsc T (fun hz => by have z : (h'.objs.size : Nat) < s3.heap.objs.size := sz3 _ hz; omega) hgen (fun i H' ⟨hi1, hall, F', s'⟩ => ⟨hi1, ?_⟩)
      ds.length 0
    · have loop' := fun s₀ s5 z1 z2 z3 => loop s₀ s5 H3 (Nat.zero_add _) (I5 s5 z1 z2 z3) (by rw [z1]; exact st5) (fun b hb => (f3 b hb).1) ⟨Nat.zero_le _, by simp, F1, Stp.refl st13.fz st13.tb⟩
      refine Calls.spliced_nil ?_
      refine call_function_tree PySem.F.kind_all PySem.F.plain_all PySem.F.entry_all (PySem.F.args_all1 _) ?_
      unfold Builtin.«all»
      refine wpAny_bind (m := oneArg "all" _) (wpAny_pure ?_)
      refine wpAny_bind (wpAny_pyIter_gen (g := s3.gens.size) (hgen _ (Heap.get?_push_size _ hgf)) ?_)
      have hbare : AllBare (s3.gens.push (GenState.fresh (.compStart (.GeneratorExp elt [⟨tg, iter, [], 0⟩] scope gpos) 0 (.ref it) .none (gEnv X scope s3.heap.objs.size code)))) := I3.bare.push rfl
      refine wpAny_pure ⟨plainId_quiet PySem.F.plain_all_loop _, all_run I3 f3 hr.hd hr.depth (fun y H' s' I' q' => ⟨.bl y, H', I', rfl, q'⟩) ds.length _ (hgen _ (Heap.get?_push_size _ hgf)) (I3.nolimit.keeps kp') hbare ⟨_, Array.getElem?_push_size .., rfl, ?_⟩⟩
      show Seg _ _ _ _ _ _ _ ((compStart (.GeneratorExp elt [⟨tg, iter, [], 0⟩] scope gpos) 0 (.ref it) .none (gEnv X scope s3.heap.objs.size code)).onRaise (leaving (gEnv X scope s3.heap.objs.size code))) [] _
      unfold compStart
      rw [Sem.onRaise_eq_wrap]
      show Seg _ _ _ _ _ _ _ ((ask >>= _).wrap _ _ _ _) [] _
      have hb2 : AllBare (Shared.setGen { s3 with gens := s3.gens.push (GenState.fresh (.compStart (.GeneratorExp elt [⟨tg, iter, [], 0⟩] scope gpos) 0 (.ref it) .none (gEnv X scope s3.heap.objs.size code))), toks := s3.toks + 1 + 1 + 1, heap := h'.push go } s3.gens.size .running).gens := allBare_setGen hbare rfl
      refine seg_bind_wrap (wpAny_askSetting ?_)
      split
      · exact seg_again rfl (loop' _ _ rfl rfl hb2)
      · refine seg_bind_wrap (wpAny_rule ?_)
        show Seg _ _ _ _ _ _ _ ((standAt iter.pos >>= _).wrap _ _ _ _) [] _
        exact seg_bind_wrap (wpAny_standAt (seg_bind_wrap (T.self _ 0 _ _ _ st5 (seg_again rfl (loop' _ _ rfl rfl hb2)))))
    · obtain ⟨wg, ws⟩ := w1 F' H' s'.sub s'.fz s'.tb i
      have stot := (st1.trans st13).trans s'
      by_cases hlt : i < ds.length
      · refine .inr ⟨hlt, ?_⟩
        have hx : ds[i]? = some ds[i] := List.getElem?_eq_getElem hlt
        have hmem : ds[i] ∈ ds := List.getElem_mem hlt
        obtain ⟨go', wy⟩ := wg _ hx
        refine ⟨go', fun x H'' hy => ?_⟩
        obtain ⟨F'', s'', d''⟩ := wy x H'' hy
        have S3 : Sta c F'' H'' (L2.wipe σ (own.map (·.2))) (wipeD δ (own.map (·.2))) := (S.step (stot.trans s'')).wipe _
        refine hg _ hmem _ _ _ _ _ _ F'' H'' _ x _ S3 d'' fun σ4 S4 l4 k4 => ⟨wipe_eq (l4.trans (wipe_length σ _)) k4, ?_⟩
        refine he _ hmem _ _ _ _ _ _ (room_gen hr _) F'' H'' σ4 _ S4 fun y F5 H5 s5 d5 => ⟨f ds[i], dv_bl d5, fun hb => ⟨hlt, ?_, F5, (s'.trans s'').trans s5⟩, fun hb => q _ F5 H5 ((stot.trans s'').trans s5) ?_⟩
        · rw [← List.take_append_getElem hlt, List.all_append, hall]
          simp [hb]
        · have : ds.all f = false := by
            rw [List.all_eq_false]
            exact ⟨_, hmem, by rw [hb]; exact Bool.false_ne_true⟩
          rw [this]
          exact .bl false
      · have e : i = ds.length := Nat.le_antisymm hi1 (Nat.le_of_not_lt hlt)
        refine .inl ⟨e, ws (Nat.le_of_eq e.symm), q _ F' H' stot ?_⟩
        rw [e, List.take_length] at hall
        rw [hall]
        exact .bl true
  have hPs : s2.heap.get? P = some { cls := .none, data := .fields ps } := I1.hok P _ hP1
  have cd : PySem.W.CodeHd s2.heap cc P := TB.code.keeps fun b u e => I1.bk b u e
  cases hf : codeAmong gpos ps.toList with
  | none =>
    refine wpAny_genexprCodeX hcode (cd.code hPs htr) (cd.tab hPs) hf fun c' h' tk hx hge hlt hco' _ htab' _ => ?_
    obtain ⟨o1, vs, f1', tf, fl, tg', inF, tx, tt, op, _, _, _, _, _, _, _, _, _, htr', _⟩ := hco'
    refine cont _ h' tk _ ?_ htr' (fun b o hb e => hx b o hb e)
    exact GxR.inv_tab I1 hP1 (fun b o hb e => hx b o hb e) htab'.2 I1.bare
  | some cv =>
    refine wpAny_genexprCode_hit hcode (cd.code hPs htr) hf ?_
    have e0 : ps ++ #[] = ps := by simp
    refine cont cv s2.heap s2.toks ps ?_ htr (fun b o _ e => e)
    have J := GxR.inv_tab (more := #[]) (d' := s2.drawn) (t' := s2.toks) I1 hP1 (fun b o _ e => e) (by rw [e0]; exact hPs) I1.bare
    rw [e0] at J
    exact J
end
end Fs

set_option Elab.async false
set_option linter.all false
set_option maxRecDepth 100000
set_option maxHeartbeats 4000000
/-! Firesseen: dicts with int keys; calls with any result. -/
namespace Fs
open PySem PySem.Spec L2
def lookK {κ : Type} [DecidableEq κ] (kvs : List (κ × D)) (k : κ) : Option D := (kvs.find? fun kv => decide (kv.1 = k)).map (·.2)
def putD {κ : Type} [DecidableEq κ] (kvs : List (κ × D)) (k : κ) (d : D) : List (κ × D) :=
  if (kvs.any fun kv => decide (kv.1 = k)) = true then kvs.map (fun kv => if kv.1 = k then (kv.1, d) else kv) else kvs ++ [(k, d)]
theorem lookK_nil {κ : Type} [DecidableEq κ] (k : κ) : lookK ([] : List (κ × D)) k = none := rfl
theorem lookK_cons {κ : Type} [DecidableEq κ] (p : κ × D) (r : List (κ × D)) (k : κ) : lookK (p :: r) k = if p.1 = k then some p.2 else lookK r k := by
  unfold lookK
  rw [List.find?_cons]
  by_cases h : p.1 = k <;> simp [h]
theorem lookK_any {κ : Type} [DecidableEq κ] (k : κ) : ∀ kvs : List (κ × D), (kvs.any fun kv => decide (kv.1 = k)) = (lookK kvs k).isSome
  | [] => rfl
  | p :: r => by
    rw [List.any_cons, lookK_cons, lookK_any k r]
    by_cases h : p.1 = k <;> simp [h]
theorem lookK_map {κ : Type} [DecidableEq κ] (k j : κ) (y : D) : ∀ kvs : List (κ × D), lookK (kvs.map fun kv => if kv.1 = k then (kv.1, y) else kv) j = (lookK kvs j).map fun x => if j = k then y else x
  | [] => rfl
  | p :: r => by
    rw [List.map_cons, lookK_cons, lookK_cons, lookK_map k j y r]
    by_cases h : p.1 = k
    · rw [if_pos h]
      by_cases h2 : p.1 = j
      · have : j = k := h2.symm.trans h
        simp [h2, this]
      · simp [h2]
    · rw [if_neg h]
      by_cases h2 : p.1 = j
      · have : ¬ j = k := fun z => h (h2.trans z)
        simp [h2, this]
      · simp [h2]
theorem lookK_snoc {κ : Type} [DecidableEq κ] (k j : κ) (y : D) : ∀ kvs : List (κ × D), lookK kvs k = none → lookK (kvs ++ [(k, y)]) j = if j = k then some y else lookK kvs j
  | [], _ => by
    rw [List.nil_append, lookK_cons]
    by_cases h : j = k
    · simp [h]
    · have : ¬ k = j := fun z => h z.symm
      simp [h, this, lookK_nil]
  | p :: r, h => by
    rw [lookK_cons] at h
    by_cases hp : p.1 = k
    · rw [if_pos hp] at h; cases h
    · rw [if_neg hp] at h
      rw [List.cons_append, lookK_cons, lookK_cons, lookK_snoc k j y r h]
      by_cases h2 : p.1 = j
      · have : ¬ j = k := fun z => hp (h2.trans z)
        simp [h2, this]
      · simp [h2]
theorem lookK_put {κ : Type} [DecidableEq κ] (kvs : List (κ × D)) (k j : κ) (y : D) : lookK (putD kvs k y) j = if j = k then some y else lookK kvs j := by
  unfold putD
  rw [lookK_any]
  cases h : lookK kvs k with
  | some z =>
    rw [if_pos (show (some z).isSome = true from rfl), lookK_map]
    by_cases hj : j = k
    · rw [hj, h]; simp
    · rw [if_neg hj]
      cases lookK kvs j <;> simp [hj]
  | none =>
    rw [if_neg (by simp)]
    exact lookK_snoc k j y kvs h
theorem putD_len {κ : Type} [DecidableEq κ] (kvs : List (κ × D)) (k : κ) (d : D) : (putD kvs k d).length ≤ kvs.length + 1 := by
  unfold putD
  split
  · rw [List.length_map]; omega
  · rw [List.length_append]; exact Nat.le_refl _
/-! int keys -/
theorem kok_val {F : Hp} {k : Int} : ∀ {kv : List (Key × V)} {kvs : List (Int × D)}, KOk F kv kvs → (lookK kvs k = none ∧ valV kv (.inl k) = none) ∨ ∃ d v, lookK kvs k = some d ∧ valV kv (.inl k) = some v ∧ Dv F v d
  | _, _, .nil => .inl ⟨rfl, rfl⟩
  | p :: r, q :: t, .cons h hr => by
    obtain ⟨h1, h2⟩ := h
    rw [lookK_cons]
    by_cases hk : q.1 = k
    · rw [if_pos hk]
      exact .inr ⟨_, _, rfl, valV_pos (by rw [h1, hk]), h2⟩
    · rw [if_neg hk, valV_neg (by rw [h1]; exact fun z => hk (Sum.inl.inj z))]
      exact kok_val hr
theorem kok_len {F : Hp} : ∀ {kv : List (Key × V)} {kvs : List (Int × D)}, KOk F kv kvs → kv.length = kvs.length
  | _, _, .nil => rfl
  | _, _, .cons _ hr => congrArg Nat.succ (kok_len hr)
theorem kok_any {F : Hp} {k : Int} : ∀ {kv : List (Key × V)} {kvs : List (Int × D)}, KOk F kv kvs → (kv.any fun p => decide (p.1 = .inl k)) = kvs.any fun p => decide (p.1 = k)
  | _, _, .nil => rfl
  | p :: r, q :: t, .cons h hr => by
    rw [List.any_cons, List.any_cons, kok_any hr, h.1]
    by_cases hk : q.1 = k <;> simp [hk]
theorem kok_map {F : Hp} {k : Int} {v : V} {d : D} (hd : Dv F v d) : ∀ {kv : List (Key × V)} {kvs : List (Int × D)}, KOk F kv kvs → KOk F (kv.map fun p => if p.1 = .inl k then (p.1, v) else p) (kvs.map fun p => if p.1 = k then (p.1, d) else p)
  | _, _, .nil => .nil
  | p :: r, q :: t, .cons h hr => by
    refine .cons ?_ (kok_map hd hr)
    dsimp only
    by_cases hk : q.1 = k
    · have : p.1 = .inl k := by rw [h.1, hk]
      rw [if_pos hk, if_pos this]
      exact ⟨h.1, hd⟩
    · have : ¬ p.1 = .inl k := by rw [h.1]; exact fun z => hk (Sum.inl.inj z)
      rw [if_neg hk, if_neg this]
      exact h
theorem kok_app {F : Hp} {k : Int} {v : V} {d : D} (hd : Dv F v d) : ∀ {kv : List (Key × V)} {kvs : List (Int × D)}, KOk F kv kvs → KOk F (kv ++ [(.inl k, v)]) (kvs ++ [(k, d)])
  | _, _, .nil => .cons ⟨rfl, hd⟩ .nil
  | _, _, .cons h hr => .cons h (kok_app hd hr)
theorem kok_put {F : Hp} {k : Int} {v : V} {d : D} {kv : List (Key × V)} {kvs : List (Int × D)} (hd : Dv F v d) (h : KOk F kv kvs) : KOk F (putK kv (.inl k) v) (putD kvs k d) := by
  unfold putK putD
  rw [kok_any h]
  split
  · exact kok_map hd h
  · exact kok_app hd h
theorem kok_sub {F F' : Hp} {kv : List (Key × V)} {kvs : List (Int × D)} (s : Sub F F') (h : KOk F kv kvs) : KOk F' kv kvs := paired_map (fun _ _ z => ⟨z.1, dv_sub s z.2⟩) h
theorem room_u1 {k : Nat} {A : Around} (r : Room k A) : A.units + 1 < cLine := by have := r.un; omega
/-! ### judgements -/
/-- any result of a call -/
def EU (X : Cx) (c : Cfg) (δ : List Sd) (e : Expr) (r : Res) : Prop := ∀ F H σ Q, Sta c F H σ δ → (∀ v F' H', Stp c.T [] F H F' H' → Post H F' H' v r → Q v H') → tE X e σ H Q
/-- a dict with int keys, read -/
def ERk (X : Cx) (c : Cfg) (δ : List Sd) (e : Expr) (kvs : List (Int × D)) : Prop := ∀ F H σ Q, Sta c F H σ δ → (∀ p kv F' H', Stp c.T [] F H F' H' → H' p = some (.dK kv) → KOk F' kv kvs → Q (.ref p) H') → tE X e σ H Q
section
variable {X : Cx} {c : Cfg} {δ δ' δ2 : List Sd} {e a b tg iter elt : Expr} {es : List Expr} {pos p : Pos} {d : D} {ds : List D} {i j : Int} {k l : Bool} {x : Str} {n : Nat} {ps : List Str} {CB : Addr} {R : List D → Res → Prop} {kvs : List (Int × D)} {r : Res} {Dn : Ends}
theorem eu_call {CX : CXT} (C : Cal X.prog X.w X.K X.mg X.base CX n x ps (spD c.T CB R)) (hx : Passes CX X E0) (hr : Room n X.A) (ha : EA X c δ (e :: es) ds) (hR : R ds r) (hne : ∀ n, r ≠ .exc n) (hg : Gl X x := by rfl) (hdb : (x == ("__debug__" : Str)) = false := by decide)
    (he : starEach (e :: es) X.env = (false, eval e X.env) :: starEach es X.env := by rfl) (hpl : (backTo pos (starEach es X.env)).any (·.1) = false := by rfl) : EU X c δ (.Call (.Name x p) (e :: es) [] pos) r := fun F H σ Q S q => by
  obtain ⟨f, fd, h1, h2, h3, h4⟩ := C.ex
  refine uE (pe_call h4 hr hg h1 h2 h3 .nil hx (sA (e :: es)) hdb he hpl) ?_
  refine ha F H σ _ S fun vs F1 H1 s1 d1 => ?_
  rw [List.append_nil]
  refine ⟨F1, ds, _, s1.tb, s1.fz, d1, hR, fun v F2 H2 s2 d2 => q v F2 H2 (s1.trans s2) ?_, fun _ z => absurd z (hne _)⟩
  cases r with
  | d x => exact d2
  | l ds => obtain ⟨p, vs, e1, e2, e3⟩ := d2; exact ⟨p, vs, e1, s1.dom p e2, e3⟩
  | k ds => obtain ⟨p, vs, e1, e2, e3⟩ := d2; exact ⟨p, vs, e1, s1.dom p e2, e3⟩
  | t ds => obtain ⟨p, vs, e1, e2, e3⟩ := d2; exact ⟨p, vs, e1, s1.dom p e2, e3⟩
  | z ds => exact d2
  | exc n => exact d2.elim
theorem EU.ed (h : EU X c δ e (.d d)) : ED X c δ e d := fun F H σ Q S q => h F H σ Q S fun v F' H' s p => q v F' H' s p
theorem EU.el (h : EU X c δ e (.l ds)) : EL X c δ e ds := fun F H σ Q S q => h F H σ Q S fun v F' H' s ⟨p, vs, e1, e2, e3, e4, e5⟩ => by
  subst e1
  exact q p vs F' H' s e2 e3 e4 e5
theorem EU.rk (h : EU X c δ e (.k kvs)) : ERk X c δ e kvs := fun F H σ Q S q => h F H σ Q S fun v F' H' s ⟨p, vs, e1, e2, e3, e4, e5⟩ => by
  subst e1
  exact q p vs F' H' s e4 e5
def noneR : Res → Bool
  | .d x => isN x
  | _ => false
/-- .. is not None -/
theorem et_notNoneU {m : Nat} {p' : Pos} (h : EU X c δ e r) : ET X c δ (.Compare e [.IsNot] [.Constant .none m p'] p) (!noneR r) := fun F H σ Q S q => by
  refine uT (pt_cmpR op_notN (sE e) (sE (.Constant .none m p')) (nomark _)) ?_
  refine h F H σ _ S fun v F1 H1 s1 d1 => ?_
  refine uE pe_non ?_
  refine ⟨rfl, _, rfl, ?_⟩
  have : decide (v = .non) = noneR r := by
    cases r with
    | d x => exact isN_of d1
    | l ds => obtain ⟨p, vs, rfl, _⟩ := d1; rfl
    | k ds => obtain ⟨p, vs, rfl, _⟩ := d1; rfl
    | t ds => obtain ⟨p, vs, rfl, _⟩ := d1; rfl
    | z ds => obtain ⟨p, o, vs, rfl, _⟩ := d1; rfl
    | exc n => exact d1.elim
  rw [this]
  exact q F1 H1 s1
/-- name = f(..), a dict -/
theorem w_setK (m : Nat) {p' : Pos} (hN : X.N.Nodup) (he : EU X c δ e (.k kvs)) (h : Nx c (δ.set m (.k kvs)) Dn.nx) (hi : X.N[m]? = some x := by rfl) (hx : Loc X.env.scope x := by first | exact Or.inl rfl | exact Or.inr rfl) (hs : swapsWith e (some (.Name x p')) pos.line X.env = pure false := by rfl)
    (hf : X.fn x = true ∨ X.env.scope.names.lookup x = some .local := by first | exact .inl rfl | exact .inr rfl) : W1 X c δ (.Assign [.Name x p'] e pos) Dn := fun F H σ S => by
  refine uS (ps_set hN hi hx (sE e) hs hf) ?_
  refine he F H σ _ S fun v F1 H1 s1 ⟨r, vs, e1, e2, e3, e4, e5⟩ => ?_
  subst e1
  refine h F1 H1 _ ((S.step s1).setO m e3 (S.base.dom _ e2) rfl ⟨vs, e4, e5⟩ fun j y hj ey oy z => ?_)
  exact S.fresh e2 j y ey oy z
/-- {} -/
theorem eu_dict : EU X c δ (.Dict [] [] pos) (.k []) := fun F H σ Q S q => by
  refine uE pe_dnewK fun r hr => ?_
  have s : Stp c.T [] F H F (upd H r (.dK [])) := Stp.newO S.fz S.tb hr
  exact q _ F _ s ⟨r, [], rfl, hr, fresh_F S.refl hr, upd_same, .nil⟩
theorem erk_name (n : Nat) {x : Str} (hδ : δ[n]? = some (.k kvs)) (hN : X.N[n]? = some x := by rfl) (hv : Vis X.env.scope x := by first | exact Or.inl rfl | exact Or.inr (Or.inl rfl) | exact Or.inr (Or.inr rfl)) (hd : (x == ("__debug__" : Str)) = false := by decide)
    (hcd : (x == ("__classdict__" : Str)) = false := by decide) : ERk X c δ (.Name x p) kvs := fun F H σ Q S q => by
  obtain ⟨r, vs, e1, _, _, e2, e3⟩ := S.dk hδ
  exact uE (pe_var hN hv hd hcd) ⟨_, e1, q r vs F H S.refl e2 e3⟩
theorem kKey {i : Int} : V.int i = kV (.inl i) := rfl
theorem ed_get2 {ap cp : Pos} (hu : X.A.units + 1 < cLine) (ho : ERk X c δ a kvs) (he : ED X c δ e (.int i)) (hf : ED X c δ b d)
    (hbase : attributeBase a "get" X.env (eval a X.env) = eval a X.env := by rfl)
    (hfew : ((backTo cp (starEach [e, b] X.env)).all (fun x => !x.1) && (backToKw cp (keywordEach [] X.env)).all (fun x => x.1.isSome) && decide (([e, b] : List Expr).length + ([] : List Keyword).length + (if ([] : List Keyword).isEmpty then 0 else 1) < 30)) = true := by rfl)
    (hline : (ap.endLine == cp.line) = true := by rfl) (htr : backTo cp (starEach [e, b] X.env) = [(false, eval e X.env), (false, eval b X.env)] := by rfl) : ED X c δ (.Call (.Attribute a "get" ap) [e, b] [] cp) ((lookK kvs i).getD d) := fun F H σ Q S q => by
  refine uE (pe_dget2 hu (sE a) (sE e) (sE b) ⟨hbase, hfew, hline, htr⟩) ?_
  refine ho F H σ _ S fun r kv F1 H1 s1 e1 k1 => ⟨r, rfl, .inl ⟨kv, .inl e1⟩, ?_⟩
  refine he F1 H1 σ _ (S.step s1) fun v2 F2 H2 s2 d2 => ?_
  refine hf F2 H2 σ _ ((S.step s1).step s2) fun v3 F3 H3 s3 d3 => ?_
  have s23 := s2.trans s3
  have e3 : H3 r = some (.dK kv) := s23.ext _ _ e1 (by simp) (fun _ z => by cases z)
  have k3 := kok_sub s23.sub k1
  refine ⟨valV kv (.inl i), ?_, q _ F3 H3 ((s1.trans s2).trans s3) ?_⟩
  · rw [dv_int d2]
    exact DGet.k (k := .inl i) e3
  · rcases kok_val (k := i) k3 with ⟨z1, z2⟩ | ⟨d', v', z1, z2, z3⟩
    · rw [z1, z2]; exact d3
    · rw [z1, z2]; exact z3
theorem ed_dix (hu : X.A.units + 1 < cLine) (ho : ERk X c δ a kvs) (he : ED X c δ e (.int i)) (hl : lookK kvs i = some d) (hs : NoSl e := by intro _ _; rfl) : ED X c δ (.Subscript a e p) d := fun F H σ Q S q => by
  refine uE (pe_dget hu (sE a) (sE e) hs) ?_
  refine ho F H σ _ S fun r kv F1 H1 s1 e1 k1 => ?_
  refine he F1 H1 σ _ (S.step s1) fun v2 F2 H2 s2 d2 => ?_
  have e3 : H2 r = some (.dK kv) := s2.ext _ _ e1 (by simp) (fun _ z => by cases z)
  have k3 := kok_sub s2.sub k1
  rcases kok_val (k := i) k3 with ⟨z1, z2⟩ | ⟨d', v', z1, z2, z3⟩
  · rw [hl] at z1; cases z1
  · rw [hl] at z1
    cases z1
    refine ⟨r, v', rfl, ?_, q _ F2 H2 (s1.trans s2) z3⟩
    rw [dv_int d2, ← z2]
    exact DGet.k (k := .inl i) e3
/-- d[e] = v, d a dict of the def's own -/
theorem w_dput (m : Nat) {e2 : Expr} {p' : Pos} (hu : X.A.units + 1 < cLine) (hδ : δ[m]? = some (.k kvs)) (hv' : ED X c δ e d) (hi' : ED X c δ e2 (.int i)) (hz : kvs.length < sizeLine) (h : Nx c (δ.set m (.k (putD kvs i d))) Dn.nx)
    (hN : X.N[m]? = some x := by rfl) (hv : Vis X.env.scope x := by first | exact Or.inl rfl | exact Or.inr (Or.inl rfl) | exact Or.inr (Or.inr rfl)) (hd : (x == ("__debug__" : Str)) = false := by decide) (hcd : (x == ("__classdict__" : Str)) = false := by decide)
    (hs : swapsWith e (some (.Subscript (.Name x p) e2 p')) pos.line X.env = pure false := by rfl) : W1 X c δ (.Assign [.Subscript (.Name x p) e2 p'] e pos) Dn := fun F H σ S => by
  refine uS (ps_dput hu (pe_var hN hv hd hcd) (sE e2) (sE e) hs) ?_
  refine hv' F H σ _ S fun v F1 H1 s1 d1 => ?_
  obtain ⟨r, kv, e1, e2', e3, e4, e5⟩ := (S.step s1).dk hδ
  refine ⟨_, e1, ?_⟩
  refine hi' F1 H1 σ _ (S.step s1) fun iv F2 H2 s2 d2 => ?_
  have S2 := (S.step s1).step s2
  have e4' := s2.ext _ _ e4 (by simp) (fun _ z => by cases z)
  refine ⟨r, upd H2 r (.dK (putK kv (.inl i) v)), rfl, ?_, ?_⟩
  · rw [dv_int d2]
    exact DPut.k (k := .inl i) e4' (by rw [kok_len e5]; exact hz)
  · exact h F2 _ σ (S2.write hδ rfl e1 rfl ⟨_, upd_same, kok_put (s2.dv d1) (kok_sub s2.sub e5)⟩ (fun _ z => by cases z))
end
end Fs

set_option Elab.async false
set_option linter.all false
set_option maxRecDepth 100000
set_option maxHeartbeats 4000000
/-! Firesseen: expressions that change a caller's list (the dice). -/
namespace Fs
open PySem PySem.Spec L2
section
variable {X : Cx} {c : Cfg} {δ δ' δ2 : List Sd} {e a b tg iter elt : Expr} {es : List Expr} {pos p : Pos} {d : D} {ds xs : List D} {i j : Int} {k l : Bool} {x : Str} {n m : Nat} {ps : List Str} {r : Res} {Dn : Ends} {st : Stmt} {body rest : List Stmt} {ad : Addr}
theorem Sta.lm {F H : Hp} {σ : L2.St} (S : Sta c F H σ δ) (h : δ[m]? = some (.m ad xs)) : ∃ vs, σ[m]? = some (some (.ref ad)) ∧ F ad = none ∧ (c.H0 ad = none ∨ ad ∈ c.Mx) ∧ H ad = some (.lst vs) ∧ DvAll F vs xs := by
  obtain ⟨p, a1, a2, a3, e0, vs, a4, a5⟩ := S.sl.ok m _ h
  subst e0
  exact ⟨vs, a1, a2, a3, a4, a5⟩
/-- the list at ad was changed by a callee -/
theorem Sta.changed {F H F' H' : Hp} {σ : L2.St} {xs' : List D} {ws : List V} (S : Sta c F H σ δ) (h : δ[m]? = some (.m ad xs)) (s : Stp c.T [ad] F H F' H') (hF : F' ad = none) (hH : H' ad = some (.lst ws)) (hd : DvAll F' ws xs') : Sta c F' H' σ (δ.set m (.m ad xs')) := by
  obtain ⟨vs, a1, a2, a3, a4, a5⟩ := S.lm h
  have hml : m < δ.length := (List.getElem?_eq_some_iff.mp h).1
  refine ⟨⟨S.base.sub.trans s.sub, s.fz, fun x o e n1 n2 => ?_, fun x e => S.base.dom x (s.dom x e), fun x o e => ?_, s.tb⟩, S.pin.trans s.sub, by rw [List.length_set]; exact S.sl.len, fun i y ey => ?_, fun i j y z q hij e1 e2 o1 o2 s1 => ?_⟩
  · have hne : x ≠ ad := by
      rintro rfl
      rcases a3 with z | z
      · rw [z] at e; cases e
      · exact n1 z
    exact s.ext x o (S.base.ext x o e n1 n2) (by simpa using hne) n2
  · rcases s.new x o e with z | z
    · exact S.base.new x o z
    · exact .inr (S.base.dom x z)
  · by_cases hi : m = i
    · subst hi
      rw [List.getElem?_set_self hml] at ey
      cases ey
      exact ⟨ad, a1, hF, a3, rfl, ws, hH, hd⟩
    · rw [List.getElem?_set_ne hi] at ey
      have old := S.sl.ok i y ey
      cases ho : y.own with
      | false =>
        cases y with
        | un => trivial
        | d x => obtain ⟨v, b1, b2⟩ := old; exact ⟨v, b1, s.dv b2⟩
        | v x => exact old
        | z x => obtain ⟨v, b1, b2⟩ := old; exact ⟨v, b1, b2.sub s.sub⟩
        | _ => cases ho
      | true =>
        obtain ⟨q, b1, b2, b3, b4⟩ := old.own ho
        have hq : q ≠ ad := fun z => by
          rw [z] at b1
          exact S.sl.sep m i _ y ad hi h ey rfl ho a1 b1
        obtain ⟨u, hu⟩ := b4.there
        have b4' := b4.step s (by simpa using hq)
        have b2' := s.free b2 hu
        cases y with
        | l ds => exact ⟨q, b1, b2', b3, b4'⟩
        | k ds => exact ⟨q, b1, b2', b3, b4'⟩
        | t ds => exact ⟨q, b1, b2', b3, b4'⟩
        | m a0 ds => exact ⟨q, b1, b2', b3, b4'⟩
        | mt a0 ds => exact ⟨q, b1, b2', b3, b4'⟩
        | _ => cases ho
  · have old : ∀ (j : Nat) (y : Sd), (δ.set m (.m ad xs'))[j]? = some y → y.own = true → ∃ y', δ[j]? = some y' ∧ y'.own = true := fun j y e o => by
      by_cases hj : m = j
      · subst hj
        exact ⟨_, h, rfl⟩
      · rw [List.getElem?_set_ne hj] at e
        exact ⟨y, e, o⟩
    obtain ⟨y', e1', o1'⟩ := old i y e1 o1
    obtain ⟨z', e2', o2'⟩ := old j z e2 o2
    exact S.sl.sep i j y' z' q hij e1' e2' o1' o2' s1
/-! ### judgements: K is what is wanted behind it -/
def EM (X : Cx) (c : Cfg) (δ : List Sd) (e : Expr) (K : D → List Sd → Prop) : Prop := ∀ F H σ Q, Sta c F H σ δ → (∀ d δ' v F' H', K d δ' → Sta c F' H' σ δ' → Stp c.T c.Mx F H F' H' → Dv F' v d → Q v H') → tE X e σ H Q
def EMA (X : Cx) (c : Cfg) (δ : List Sd) (es : List Expr) (K : List D → List Sd → Prop) : Prop := ∀ F H σ Q, Sta c F H σ δ → (∀ ds δ' vs F' H', K ds δ' → Sta c F' H' σ δ' → Stp c.T c.Mx F H F' H' → DvAll F' vs ds → Q vs H') → tA X es σ H Q
def ETM (X : Cx) (c : Cfg) (δ : List Sd) (e : Expr) (K : Bool → List Sd → Prop) : Prop := ∀ F H σ Q, Sta c F H σ δ → (∀ b δ' F' H', K b δ' → Sta c F' H' σ δ' → Stp c.T c.Mx F H F' H' → Q b H') → tT X e σ H Q
/-- a new list -/
def EML (X : Cx) (c : Cfg) (δ : List Sd) (e : Expr) (K : List D → List Sd → Prop) : Prop := ∀ F H σ Q, Sta c F H σ δ → (∀ ds δ' p vs F' H', K ds δ' → Sta c F' H' σ δ' → Stp c.T c.Mx F H F' H' → (∀ (j : Nat) (y : Sd), δ'[j]? = some y → y.own = true → σ[j]? ≠ some (some (V.ref p))) → c.H0 p = none → F' p = none → H' p = some (.lst vs) → DvAll F' vs ds → Q (.ref p) H') → tE X e σ H Q
variable {K : D → List Sd → Prop} {KA : List D → List Sd → Prop} {KT : Bool → List Sd → Prop}
theorem ED.mm (h : ED X c δ e d) (hK : K d δ) : EM X c δ e K := fun F H σ Q S q => h F H σ Q S fun v F' H' s hv => q d δ v F' H' hK (S.step s) s.wide hv
theorem EA.mm (h : EA X c δ es ds) (hK : KA ds δ) : EMA X c δ es KA := fun F H σ Q S q => h F H σ Q S fun v F' H' s hv => q ds δ v F' H' hK (S.step s) s.wide hv
theorem ET.mm (h : ET X c δ e k) (hK : KT k δ) : ETM X c δ e KT := fun F H σ Q S q => h F H σ Q S fun F' H' s => q k δ F' H' hK (S.step s) s.wide
theorem EL.mm (h : EL X c δ e ds) (hK : KA ds δ) : EML X c δ e KA := fun F H σ Q S q => h F H σ Q S fun p vs F' H' s h1 h2 h3 h4 => q ds δ p vs F' H' hK (S.step s) s.wide (S.fresh h1) (S.base.dom _ h1) h2 h3 h4
theorem EM.mono {K' : D → List Sd → Prop} (h : EM X c δ e K) (hK : ∀ d δ', K d δ' → K' d δ') : EM X c δ e K' := fun F H σ Q S q => h F H σ Q S fun d δ' v F' H' k s t u => q d δ' v F' H' (hK d δ' k) s t u
theorem em_add (ha : EM X c δ a fun d1 δ1 => ∃ i, d1 = .int i ∧ EM X c δ1 b fun d2 δ2 => ∃ j, d2 = .int j ∧ K (.int (i + j)) δ2) : EM X c δ (.BinOp a .Add b p) K := fun F H σ Q S q => by
  refine uE (pe_op op_add (sE a) (sE b)) ?_
  refine ha F H σ _ S fun d1 δ1 v F1 H1 ⟨i, e1, hb⟩ S1 s1 v1 => ?_
  subst e1
  refine hb F1 H1 σ _ S1 fun d2 δ2 v2 F2 H2 ⟨j, e2, hK⟩ S2 s2 v2' => ?_
  subst e2
  exact ⟨i, j, dv_int v1, dv_int v2', q _ δ2 _ F2 H2 hK S2 (s1.trans s2) (.int _)⟩
theorem em_sub (ha : EM X c δ a fun d1 δ1 => ∃ i, d1 = .int i ∧ EM X c δ1 b fun d2 δ2 => ∃ j, d2 = .int j ∧ K (.int (i - j)) δ2) : EM X c δ (.BinOp a .Sub b p) K := fun F H σ Q S q => by
  refine uE (pe_op op_sub (sE a) (sE b)) ?_
  refine ha F H σ _ S fun d1 δ1 v F1 H1 ⟨i, e1, hb⟩ S1 s1 v1 => ?_
  subst e1
  refine hb F1 H1 σ _ S1 fun d2 δ2 v2 F2 H2 ⟨j, e2, hK⟩ S2 s2 v2' => ?_
  subst e2
  exact ⟨i, j, dv_int v1, dv_int v2', q _ δ2 _ F2 H2 hK S2 (s1.trans s2) (.int _)⟩
theorem ema_nil (hK : KA [] δ) : EMA X c δ [] KA := ea_nil.mm hK
theorem ema_cons (ha : EM X c δ e fun d1 δ1 => EMA X c δ1 es fun ds δ2 => KA (d1 :: ds) δ2) (hs : starEach (e :: es) X.env = (false, eval e X.env) :: starEach es X.env := by rfl) : EMA X c δ (e :: es) KA := fun F H σ Q S q => by
  refine uA (pa_cons (sE e) (sA es) hs) ?_
  refine ha F H σ _ S fun d1 δ1 v F1 H1 hb S1 s1 v1 => ?_
  refine hb F1 H1 σ _ S1 fun ds δ2 vs F2 H2 hK S2 s2 v2 => ?_
  exact q _ δ2 _ F2 H2 hK S2 (s1.trans s2) (.cons (s2.dv v1) v2)
theorem Sta.newF {F H : Hp} {σ : L2.St} {o : HO} {q : Addr} (S : Sta c F H σ δ) (hq : H q = none) (ho : ∀ ps, o ≠ .tbl ps) : Sta c (upd F q o) (upd H q o) σ δ := S.step (Stp.newF S.fz S.tb hq ho)
theorem em_tup {n : Nat} (ha : EMA X c δ es fun ds δ1 => ds.length ≤ sizeLine ∧ K (.tuple ds) δ1) : EM X c δ (.Tuple es n p) K := fun F H σ Q S q => by
  refine uE (pe_tup (sA es)) ?_
  refine ha F H σ _ S fun ds δ1 vs F1 H1 ⟨hl, hK⟩ S1 s1 d1 => ?_
  refine ⟨by rw [dvAll_len d1]; exact hl, fun r hr => ?_⟩
  have hF : F1 r = none := fresh_F S1.base hr
  have hsub : Sub F1 (upd F1 r (.tup vs)) := Sub.new hF
  exact q _ δ1 _ _ _ hK (S1.newF hr (fun _ z => by cases z)) (s1.trans (Stp.newF S1.fz S1.tb hr (fun _ z => by cases z))) (.tup (.inl upd_same) (dvAll_sub hsub d1))
theorem em_lst (ha : EMA X c δ es fun ds δ1 => ds.length ≤ sizeLine ∧ K (.list ds) δ1) : EM X c δ (.List es p) K := fun F H σ Q S q => by
  refine uE (pe_lst (sA es)) ?_
  refine ha F H σ _ S fun ds δ1 vs F1 H1 ⟨hl, hK⟩ S1 s1 d1 => ?_
  refine ⟨by rw [dvAll_len d1]; exact hl, fun r hr => ?_⟩
  have hF : F1 r = none := fresh_F S1.base hr
  have hsub : Sub F1 (upd F1 r (.lst vs)) := Sub.new hF
  exact q _ δ1 _ _ _ hK (S1.newF hr (fun _ z => by cases z)) (s1.trans (Stp.newF S1.fz S1.tb hr (fun _ z => by cases z))) (.lst upd_same (dvAll_sub hsub d1))
/-- a comparison of ints, as a value, as a test -/
def ECM (X : Cx) (c : Cfg) (δ : List Sd) (a : Expr) (op : CmpOp) (b : Expr) (KT : Bool → List Sd → Prop) : Prop := ∃ r : R2, OpR X (compareOp op) r ∧ behindInMarks op b = false ∧
  ∀ F H σ (Q : Bool → Hp → Prop), Sta c F H σ δ → (∀ k δ' F' H', KT k δ' → Sta c F' H' σ δ' → Stp c.T c.Mx F H F' H' → Q k H') → tE X a σ H fun x H1 => tE X b σ H1 fun y H2 => r x y H2 fun z H3 => ∃ k', z = .bl k' ∧ Q k' H3
theorem ecm_I {op : CmpOp} {g : Int → Int → Bool} (ho : OpR X (compareOp op) (rI0 fun i j => .bl (g i j))) (ha : EM X c δ a fun d1 δ1 => ∃ i, d1 = .int i ∧ EM X c δ1 b fun d2 δ2 => ∃ j, d2 = .int j ∧ KT (g i j) δ2) (hm : behindInMarks op b = false) : ECM X c δ a op b KT :=
  ⟨_, ho, hm, fun F H σ Q S q => by
    refine ha F H σ _ S fun d1 δ1 v F1 H1 ⟨i, e1, hb⟩ S1 s1 v1 => ?_
    subst e1
    refine hb F1 H1 σ _ S1 fun d2 δ2 v2 F2 H2 ⟨j, e2, hK⟩ S2 s2 v2' => ?_
    subst e2
    exact ⟨i, j, dv_int v1, dv_int v2', _, rfl, q _ δ2 F2 H2 hK S2 (s1.trans s2)⟩⟩
theorem ecm_lt (ha : EM X c δ a fun d1 δ1 => ∃ i, d1 = .int i ∧ EM X c δ1 b fun d2 δ2 => ∃ j, d2 = .int j ∧ KT (decide (i < j)) δ2) : ECM X c δ a .Lt b KT := ecm_I op_lt ha (nomark _)
theorem ecm_gt (ha : EM X c δ a fun d1 δ1 => ∃ i, d1 = .int i ∧ EM X c δ1 b fun d2 δ2 => ∃ j, d2 = .int j ∧ KT (decide (j < i)) δ2) : ECM X c δ a .Gt b KT := ecm_I op_gt ha (nomark _)
theorem ecm_eq (ha : EM X c δ a fun d1 δ1 => ∃ i, d1 = .int i ∧ EM X c δ1 b fun d2 δ2 => ∃ j, d2 = .int j ∧ KT (decide (i = j)) δ2) : ECM X c δ a .Eq b KT :=
  ⟨_, op_eq, nomark _, fun F H σ Q S q => by
    refine ha F H σ _ S fun d1 δ1 v F1 H1 ⟨i, e1, hb⟩ S1 s1 v1 => ?_
    subst e1
    refine hb F1 H1 σ _ S1 fun d2 δ2 v2 F2 H2 ⟨j, e2, hK⟩ S2 s2 v2' => ?_
    subst e2
    obtain ⟨z1, z2⟩ := scal_of v1 v2' rfl
    exact ⟨z1, _, rfl, by rw [z2]; exact q _ δ2 F2 H2 hK S2 (s1.trans s2)⟩⟩
theorem ECM.ed (h : ECM X c δ a op b fun k δ1 => K (.bool k) δ1) : EM X c δ (.Compare a [op] [b] p) K := fun F H σ Q S q => by
  obtain ⟨r, ho, hm, hh⟩ := h
  have ho' : OpR X (compareOp op) (fun x y H Q => r x y H fun z H3 => ∃ k', z = .bl k' ∧ Q (.bl k') H3) := fun pins s σ H x y v u Q I rx ry q => by
    refine thn (ho pins s σ H x y v u _ I rx ry q) fun w' s' ⟨z, H3, I3, r3, k', e, q'⟩ => ?_
    exact ⟨z, H3, I3, r3, by rw [e]; exact q'⟩
  refine uE (pe_cmpR ho' (sE a) (sE b) hm) ?_
  exact hh F H σ (fun k' H3 => Q (.bl k') H3) S fun k δ' F' H' hK S' s' => q _ δ' _ F' H' hK S' s' (.bl k)
theorem ECM.et (h : ECM X c δ a op b KT) : ETM X c δ (.Compare a [op] [b] p) KT := fun F H σ Q S q => by
  obtain ⟨r, ho, hm, hh⟩ := h
  refine uT (pt_cmpR ho (sE a) (sE b) hm) ?_
  exact hh F H σ Q S q
theorem em_ifc {t : Expr} (ht : ETM X c δ t fun k δ1 => (k = true → EM X c δ1 a K) ∧ (k = false → EM X c δ1 b K)) : EM X c δ (.IfExp t a b p) K := fun F H σ Q S q => by
  refine uE (pe_ifExp (sT t) (sE a) (sE b)) ?_
  refine ht F H σ _ S fun k δ1 F1 H1 ⟨h1, h2⟩ S1 s1 => ?_
  cases k with
  | true => exact h1 rfl F1 H1 σ _ S1 fun d δ' v F2 H2 hK S2 s2 hv => q d δ' v F2 H2 hK S2 (s1.trans s2) hv
  | false => exact h2 rfl F1 H1 σ _ S1 fun d δ' v F2 H2 hK S2 s2 hv => q d δ' v F2 H2 hK S2 (s1.trans s2) hv
/-- tuple(new list) -/
theorem em_tuple (ha : EML X c δ e fun ds δ1 => K (.tuple ds) δ1) (hm : X.mg "tuple" = none) (hg : Gl X "tuple" := by rfl) (he : starEach (e :: []) X.env = (false, eval e X.env) :: starEach [] X.env := by rfl) (hpl : (backTo pos (starEach [] X.env)).any (·.1) = false := by rfl) :
    EM X c δ (.Call (.Name "tuple" p) [e] [] pos) K := fun F H σ Q S q => by
  refine uE (pe_callTy call_tuple_of hg hm (by decide +kernel) (pa_cons (sE e) pa_nil he) (by decide) (by decide) he hpl) ?_
  refine ha F H σ _ S fun ds δ1 r vs F1 H1 hK S1 s1 _ _ _ e1 k1 => ?_
  refine ⟨r, vs, rfl, .inl ⟨SqL.of e1, fun l hl => ?_⟩⟩
  have hF : F1 l = none := fresh_F S1.base hl
  have hsub : Sub F1 (upd F1 l (.tup vs)) := Sub.new hF
  exact q _ δ1 _ _ _ hK (S1.newF hl (fun _ z => by cases z)) (s1.trans (Stp.newF S1.fz S1.tb hl (fun _ z => by cases z))) (.tup (.inl upd_same) (dvAll_sub hsub k1))
/-! ### the list itself -/
theorem eq_nameM (n : Nat) (hδ : δ[n]? = some (.m ad xs)) (hN : X.N[n]? = some x := by rfl) (hv : Vis X.env.scope x := by first | exact Or.inl rfl | exact Or.inr (Or.inl rfl) | exact Or.inr (Or.inr rfl)) (hd : (x == ("__debug__" : Str)) = false := by decide)
    (hcd : (x == ("__classdict__" : Str)) = false := by decide) : EQ X c δ (.Name x p) xs := fun F H σ Q S q => by
  obtain ⟨vs, e1, _, _, e2, e3⟩ := S.lm hδ
  exact uE (pe_var hN hv hd hcd) ⟨_, e1, q _ F H S.refl ⟨ad, vs, rfl, .inl e2, e3⟩⟩
/-- name[i] = data -/
theorem w_storeM (m : Nat) {e2 : Expr} {p' : Pos} {jj : Nat} (hδ : δ[m]? = some (.m ad xs)) (hv' : ED X c δ e d) (hi' : ED X c δ e2 (.int i)) (hj : ixN xs.length i = some jj) (h : Nx c (δ.set m (.m ad (xs.set jj d))) Dn.nx)
    (hN : X.N[m]? = some x := by rfl) (hv : Vis X.env.scope x := by first | exact Or.inl rfl | exact Or.inr (Or.inl rfl) | exact Or.inr (Or.inr rfl)) (hd : (x == ("__debug__" : Str)) = false := by decide) (hcd : (x == ("__classdict__" : Str)) = false := by decide)
    (ha : ∀ v, assign (.Subscript (.Name x p) e2 p') X.env v = (do
      let ov ← holding [v] (eval (.Name x p) X.env)
      let iv ← holding [v, ov] (eval e2 X.env)
      standAt p'
      holding [v, ov, iv] (setItem ov iv v)
      release [v, ov, iv] []) := by intro _; rfl)
    (hs : swapsWithSole [.Subscript (.Name x p) e2 p'] e pos.line X.env = pure false := by rfl) (hw : swappedStores [.Subscript (.Name x p) e2 p'] e X.env = pure none := by rfl)
    (h1 : (assignEach [.Subscript (.Name x p) e2 p'] X.env).map (·.2) = [assign (.Subscript (.Name x p) e2 p') X.env] := by rfl) : W1 X c δ (.Assign [.Subscript (.Name x p) e2 p'] e pos) Dn := fun F H σ S => by
  refine uS (ps_asg (sE e) (pg_sub (pe_var hN hv hd hcd) (sE e2) set_list ha) hs hw h1) ?_
  refine hv' F H σ _ S fun v F1 H1 s1 d1 => ?_
  obtain ⟨vs, e1, e2', e3, e4, e5⟩ := (S.step s1).lm hδ
  refine ⟨_, e1, ?_⟩
  refine hi' F1 H1 σ _ (S.step s1) fun iv F2 H2 s2 d2 => ?_
  have S2 := (S.step s1).step s2
  have e4' := s2.ext _ _ e4 (by simp) (fun _ z => by cases z)
  refine ⟨ad, vs, i, jj, rfl, dv_int d2, e4', by rw [dvAll_len e5]; exact hj, ?_⟩
  exact h F2 _ σ (S2.write hδ rfl e1 rfl ⟨rfl, _, upd_same, dvAll_set (s2.dv d1) jj (s2.dvs e5)⟩ (fun _ z => by cases z))
/-! ### statements -/
theorem w_setM (m : Nat) {p' : Pos} (hN : X.N.Nodup) (he : EM X c δ e fun d δ1 => Nx c (δ1.set m (.d d)) Dn.nx) (hi : X.N[m]? = some x := by rfl) (hx : Loc X.env.scope x := by first | exact Or.inl rfl | exact Or.inr rfl) (hs : swapsWith e (some (.Name x p')) pos.line X.env = pure false := by rfl)
    (hf : X.fn x = true ∨ X.env.scope.names.lookup x = some .local := by first | exact .inl rfl | exact .inr rfl) : W1 X c δ (.Assign [.Name x p'] e pos) Dn := fun F H σ S => by
  refine uS (ps_set hN hi hx (sE e) hs hf) ?_
  exact he F H σ _ S fun d δ1 v F1 H1 hK S1 _ d1 => hK F1 H1 _ (S1.set m rfl ⟨v, rfl, d1⟩)
theorem w_setML (m : Nat) {p' : Pos} (hN : X.N.Nodup) (he : EML X c δ e fun ds δ1 => Nx c (δ1.set m (.l ds)) Dn.nx) (hi : X.N[m]? = some x := by rfl) (hx : Loc X.env.scope x := by first | exact Or.inl rfl | exact Or.inr rfl) (hs : swapsWith e (some (.Name x p')) pos.line X.env = pure false := by rfl)
    (hf : X.fn x = true ∨ X.env.scope.names.lookup x = some .local := by first | exact .inl rfl | exact .inr rfl) : W1 X c δ (.Assign [.Name x p'] e pos) Dn := fun F H σ S => by
  refine uS (ps_set hN hi hx (sE e) hs hf) ?_
  exact he F H σ _ S fun ds δ1 p vs F1 H1 hK S1 _ h1 h2 h3 h4 h5 => hK F1 H1 _ (S1.setO m h3 h2 rfl ⟨vs, h4, h5⟩ fun j y _ ey oy => h1 j y ey oy)
theorem w_ifM (ht : ETM X c δ e fun k δ1 => (k = true → WS X c δ1 body Dn) ∧ (k = false → WS X c δ1 rest Dn)) : W1 X c δ (.If e body rest pos) Dn := fun F H σ S => by
  refine uS (ps_if (sT e) (sSs body) (sSs rest)) ?_
  refine ht F H σ _ S fun k δ1 F1 H1 ⟨h1, h2⟩ S1 s1 => ?_
  cases k with
  | true => exact iteT (h1 rfl F1 H1 σ S1)
  | false => exact iteF (h2 rfl F1 H1 σ S1)
end
/-! ### defs that change the list that they are given -/
def spM (T : List (Addr × Option Str)) (Pre : List D → List D → Prop) (R : List D → List D → Res → List D → Prop) : Sp := fun vs H Q _ => ∃ F a us xs ds, vs = V.ref a :: us ∧ Tb T H ∧ Fz F H ∧ F a = none ∧ (∃ ws, H a = some (.lst ws) ∧ DvAll F ws xs) ∧ DvAll F us ds ∧ Pre xs ds ∧
  ∀ r xs' v F' H', R xs ds r xs' → Stp T [a] F H F' H' → F' a = none → (∃ ws, H' a = some (.lst ws) ∧ DvAll F' ws xs') → Post H F' H' v r → Q v H'
abbrev En.CalM (e : En) (CX : CXT) (k : Nat) (x : Str) (ps : List Str) (Pre : List D → List D → Prop) (R : List D → List D → Res → List D → Prop) : Prop := Fs.Cal e.P e.w e.K e.mg e.base CX k x ps (spM e.T Pre R)
def RetM (c : Cfg) (a : Addr) (Q : VK) (R : Res → List D → Prop) : Prop := ∀ r xs' v F H, R r xs' → Stp c.T c.Mx c.F0 c.H0 F H → F a = none → (∃ ws, H a = some (.lst ws) ∧ DvAll F ws xs') → Post c.H0 F H v r → Q v H
abbrev cfgM (T : List (Addr × Option Str)) (a : Addr) (F H : Hp) : Cfg := ⟨T, [a], F, H, F⟩
def argsM (N : List Str) (a : Addr) (xs ds : List D) : List Sd := .m a xs :: (ds.map .d ++ List.replicate (N.length - (ds.length + 1)) .un)
theorem staM {T : List (Addr × Option Str)} {N : List Str} {F H : Hp} {a : Addr} {us ws : List V} {xs ds : List D} (hT : Tb T H) (hF : Fz F H) (ha : F a = none) (hH : H a = some (.lst ws)) (hx : DvAll F ws xs) (hd : DvAll F us ds) : Sta (cfgM T a F H) F H (L2.start N (.ref a :: us)) (argsM N a xs ds) := by
  have hl := dvAll_len hd
  have S0 : Sta (cfg0 T F H) F H (L2.start N.tail us) (args0 N.tail ds) := sta0 hT hF hd
  have e1 : L2.start N (.ref a :: us) = some (.ref a) :: L2.start N.tail us := by
    unfold L2.start
    rw [List.map_cons, List.cons_append, List.length_cons, List.length_tail]
    congr 3
    omega
  have e2 : argsM N a xs ds = .m a xs :: args0 N.tail ds := by
    unfold argsM args0
    rw [List.length_tail]
    congr 3
    omega
  rw [e1, e2]
  have noOwn : ∀ (j : Nat) (y : Sd), (args0 N.tail ds)[j]? = some y → y.own = false := fun j y e => by
    unfold args0 at e
    rcases Nat.lt_or_ge j (ds.map Sd.d).length with h | h
    · rw [List.getElem?_append_left h] at e
      obtain ⟨d, v, rfl, _, _⟩ := dvAll_slot hd j y e
      rfl
    · rw [List.getElem?_append_right h, List.getElem?_replicate] at e
      split at e
      · cases e; rfl
      · cases e
  refine ⟨Stp.refl hF hT, Sub.refl F, by rw [List.length_cons, List.length_cons, S0.sl.len], fun i y e => ?_, fun i j x y p hij e1 e2 o1 o2 s1 => ?_⟩
  · cases i with
    | zero =>
      cases e
      exact ⟨a, rfl, ha, .inr (List.mem_singleton.mpr rfl), rfl, ws, hH, hx⟩
    | succ i =>
      have old := S0.sl.ok i y e
      have no := noOwn i y e
      cases y with
      | un => trivial
      | d x => exact old
      | v x => exact old
      | z x => exact old
      | _ => cases no
  · cases i with
    | zero =>
      cases j with
      | zero => exact absurd rfl hij
      | succ j =>
        rw [noOwn j y e2] at o2
        cases o2
    | succ i =>
      rw [noOwn i x e1] at o1
      cases o1
def BodM (e : En) (k : Nat) (N : List Str) (x : Str) (st : Stmt) (Pre : List D → List D → Prop) (R : List D → List D → Res → List D → Prop) : Prop :=
  ∀ (f : Addr) (A : Around) (outer : List Env) (s : Shared) (H : Hp) (E : XK) (F : Hp) (a : Addr) (xs ds : List D) (Q : VK), Room k (A.deeper (PyProof.Rows.envOfC x (defScope st) s.heap.objs.size f (.ref (e.ct x).1))) → Pre xs ds → (∀ b ∈ [a], H b ≠ none) → RetM (cfgM e.T a F H) a Q (R xs ds) →
    WS (e.cxN N x st f A outer s H E) (cfgM e.T a F H) (argsM N a xs ds) (defBody st) { nx := fun _ _ => False, rt := Q }
def OkM (e : En) (CX : CXT) (k : Nat) (x : Str) (st : Stmt) (ps : List Str) (Pre : List D → List D → Prop) (R : List D → List D → Res → List D → Prop) : Prop := ∀ f fd, FunP e.K x st f fd → fd.code = .ref (e.ct x).1 → FnOk e.P e.w e.K e.mg e.base CX k f fd ps (spM e.T Pre R)
section
variable {x : Str} {st : Stmt} {N ps : List Str} {k : Nat} {Pre : List D → List D → Prop} {R : List D → List D → Res → List D → Prop}
theorem ends_mono {X : Cx} {c : Cfg} {δ : List Sd} {sts : List Stmt} {Q : VK} {P1 P2 : L2.St → Hp → Prop} (h : ∀ σ H, P1 σ H → P2 σ H) (w : WS X c δ sts { nx := P1, rt := Q }) : WS X c δ sts { nx := P2, rt := Q } := fun F H σ S pins s I => by
  refine thn (w F H σ S pins s I) fun f s' hq => ?_
  cases f with
  | next => obtain ⟨σ', H', I', q⟩ := hq; exact ⟨σ', H', I', h _ _ q⟩
  | brk => exact hq
  | cont => exact hq
  | ret u => exact hq
theorem okM {e : En} (S : FnScope N ps (defScope st)) (hl : ∀ xs ds, Pre xs ds → ds.length + 1 = ps.length) (hb : BodM e k N x st Pre R) : OkM e CX0 (k + 1) x st ps Pre R := fun f fd hf hc => by
  obtain ⟨oc, od, dV, kV, doc, pm, an, cdv, ct, osl, rfl, lk, hcd, _, _⟩ := hf.ex
  obtain rfl : cdv = .ref (e.ct x).1 := hc
  refine fn_of (CX := CX0) lk hcd S (fun vs H Q E ⟨F, a, us, xs, ds, e1, _, _, _, _, hd, hP, _⟩ => by rw [e1, List.length_cons, dvAll_len hd]; exact hl xs ds hP) fun A outer s H vs Q E hr hsp => ?_
  obtain ⟨F, a, us, xs, ds, rfl, hT, hF, ha, ⟨ws, hH, hx⟩, hd, hP, hq⟩ := hsp
  refine ⟨_, PSs.nox (sSs _), ?_⟩
  exact ends_mono (fun _ _ z => z.elim) (hb f A outer s H E F a xs ds Q hr hP (fun b hb => by rw [List.mem_singleton.mp hb, hH]; exact fun z => by cases z) (fun r xs' v F' H' h1 h2 h3 h4 h5 => hq r xs' v F' H' h1 h2 h3 h4 h5)) F H _ (staM hT hF ha hH hx hd)
theorem Fx.calM {e : En} {CX : CXT} (F : Fx e x st) (O : OkM e CX k x st ps Pre R) (h : ∀ (kV doc pm : Value) (an : Option Addr) (cdv ct : Value) (us : List Value), us.length = ps.length → bindArgs (PySem.W.fnOf x x (defArgs st) (defBody st) (defScope st) .none kV doc pm an cdv ct) ⟨us, []⟩ = pure (ps.zip us)) :
    e.CalM CX k x ps Pre R := by
  obtain ⟨f, fd, h1, h2, h3⟩ := F.ex
  exact ⟨f, fd, h2, h1.kp, FunD.bindsN h1 h, O f fd h1 h3⟩
end
section
variable {X : Cx} {c : Cfg} {δ δ' δ2 : List Sd} {e a b tg iter elt : Expr} {es ifs : List Expr} {pos p p2 : Pos} {d : D} {ds xs : List D} {i j : Int} {k l : Bool} {x y : Str} {n m : Nat} {ps : List Str} {r : Res} {Dn : Ends} {st : Stmt} {body rest : List Stmt} {ad : Addr} {K : D → List Sd → Prop} {KA : List D → List Sd → Prop} {KT : Bool → List Sd → Prop}
  {Pre : List D → List D → Prop} {R : List D → List D → Res → List D → Prop}
theorem w_retM (m : Nat) {RR : Res → List D → Prop} (he : EM X c δ e fun d δ1 => ∃ xs', δ1[m]? = some (.m ad xs') ∧ RR (.d d) xs') (h : RetM c ad Dn.rt RR) : W1 X c δ (.Return (some e) pos) Dn := fun F H σ S => by
  refine uS (ps_ret (sE e)) ?_
  refine he F H σ _ S fun d δ1 v F1 H1 ⟨xs', e1, hR⟩ S1 s1 d1 => ?_
  obtain ⟨vs, _, a2, _, a4, a5⟩ := S1.lm e1
  exact h (.d d) xs' v F1 H1 hR S1.base a2 ⟨vs, a4, a5⟩ d1
theorem Stp.mx {T : List (Addr × Option Str)} {Mx : List Addr} {a : Addr} {F H F' H' : Hp} (s : Stp T [a] F H F' H') (h : a ∈ Mx) : Stp T Mx F H F' H' :=
  ⟨s.sub, s.fz, fun x o e n => s.ext x o e (fun z => n (by rw [List.mem_singleton.mp z]; exact h)), s.dom, s.new, s.tb⟩
theorem em_callM (m : Nat) {CX : CXT} (C : Cal X.prog X.w X.K X.mg X.base CX n x ps (spM c.T Pre R)) (hx : Passes CX X E0) (hr : Room n X.A) (hδ : δ[m]? = some (.m ad xs)) (hMx : ad ∈ c.Mx)
    (ha : EMA X c δ es fun ds δ1 => ∃ xs1, δ1[m]? = some (.m ad xs1) ∧ Pre xs1 ds ∧ ∀ r xs', R xs1 ds r xs' → ∃ d, r = .d d ∧ K d (δ1.set m (.m ad xs')))
    (hN : X.N[m]? = some y := by rfl) (hv : Vis X.env.scope y := by first | exact Or.inl rfl | exact Or.inr (Or.inl rfl) | exact Or.inr (Or.inr rfl)) (hd : (y == ("__debug__" : Str)) = false := by decide) (hcd : (y == ("__classdict__" : Str)) = false := by decide)
    (hg : Gl X x := by rfl) (hdb : (x == ("__debug__" : Str)) = false := by decide) (he : starEach (.Name y p2 :: es) X.env = (false, eval (.Name y p2) X.env) :: starEach es X.env := by rfl) (hpl : (backTo pos (starEach es X.env)).any (·.1) = false := by rfl) :
    EM X c δ (.Call (.Name x p) (.Name y p2 :: es) [] pos) K := fun F H σ Q S q => by
  obtain ⟨f, fd, h1, h2, h3, h4⟩ := C.ex
  refine uE (pe_call h4 hr hg h1 h2 h3 .nil hx (pa_cons (pe_var hN hv hd hcd) (sA es) he) hdb he hpl) ?_
  obtain ⟨vs0, a1, _⟩ := S.lm hδ
  refine ⟨_, a1, ?_⟩
  refine ha F H σ _ S fun ds δ1 us F1 H1 ⟨xs1, e1, hP, hK⟩ S1 s1 d1 => ?_
  obtain ⟨ws, b1, b2, b3, b4, b5⟩ := S1.lm e1
  rw [List.append_nil]
  refine ⟨F1, ad, us, xs1, ds, rfl, S1.tb, S1.fz, b2, ⟨ws, b4, b5⟩, d1, hP, fun r xs' v F2 H2 hR s2 f2 ⟨ws2, c1, c2⟩ hp => ?_⟩
  obtain ⟨d, rfl, hk⟩ := hK r xs' hR
  exact q d _ v F2 H2 hk (S1.changed e1 s2 f2 c1 c2) (s1.trans (s2.mx hMx)) hp
/-- .. of a new list -/
theorem ed_callMF {CX : CXT} (C : Cal X.prog X.w X.K X.mg X.base CX n x ps (spM c.T Pre R)) (hx : Passes CX X E0) (hr : Room n X.A) (ha : EL X c δ e xs) (hP : Pre xs []) (hR : ∀ r xs', R xs [] r xs' → r = .d d) (hg : Gl X x := by rfl) (hdb : (x == ("__debug__" : Str)) = false := by decide)
    (he : starEach (e :: []) X.env = (false, eval e X.env) :: starEach [] X.env := by rfl) (hpl : (backTo pos (starEach [] X.env)).any (·.1) = false := by rfl) : ED X c δ (.Call (.Name x p) [e] [] pos) d := fun F H σ Q S q => by
  obtain ⟨f, fd, h1, h2, h3, h4⟩ := C.ex
  refine uE (pe_call h4 hr hg h1 h2 h3 .nil hx (pa_cons (sE e) pa_nil he) hdb he hpl) ?_
  refine ha F H σ _ S fun ad ws F1 H1 s1 a1 a2 a3 a4 => ?_
  show spM c.T Pre R ([V.ref ad] ++ []) _ _ E0
  refine ⟨F1, ad, [], xs, [], rfl, s1.tb, s1.fz, a2, ⟨ws, a3, a4⟩, .nil, hP, fun r xs' v F2 H2 hr2 s2 f2 _ hp => ?_⟩
  have er := hR r xs' hr2
  subst er
  refine q v F2 H2 ⟨s1.sub.trans s2.sub, s2.fz, fun x o e' n1 n2 => ?_, fun x e' => s1.dom x (s2.dom x e'), fun x o e' => ?_, s2.tb⟩ hp
  · refine s2.ext x o (s1.ext x o e' n1 n2) (fun z => ?_) n2
    rw [List.mem_singleton.mp z, a1] at e'
    cases e'
  · rcases s2.new x o e' with z | z
    · exact s1.new x o z
    · exact .inr (s1.dom x z)
/-- t[..] of a list that is data -/
theorem em_ix (ha : EM X c δ a fun d1 δ1 => ∃ ds, d1 = .list ds ∧ EM X c δ1 b fun d2 δ2 => ∃ i, d2 = .int i ∧ ∃ d, atI ds i = some d ∧ K d δ2) (hs : PlainIx b := by intro _ _; rfl) : EM X c δ (.Subscript a b p) K := fun F H σ Q S q => by
  refine uE (pe_ix ix_seq (sE a) (sE b) hs) ?_
  refine ha F H σ _ S fun d1 δ1 v F1 H1 ⟨ds, e1, hb⟩ S1 s1 v1 => ?_
  subst e1
  refine hb F1 H1 σ _ S1 fun d2 δ2 v2 F2 H2 ⟨i, e2, d, hd, hK⟩ S2 s2 v2' => ?_
  subst e2
  have v1' := s2.dv v1
  obtain ⟨r, vs, rfl, f1, f2⟩ := dv_lst v1'
  obtain ⟨u, h1, h2⟩ := atI_of f2 hd
  exact .inl ⟨r, vs, i, u, rfl, dv_int v2', SqL.of (fz_sub S2.fz _ _ f1), h1, q d δ2 u F2 H2 hK S2 (s1.trans s2) h2⟩
end
end Fs

set_option Elab.async false
set_option linter.all false
set_option maxRecDepth 100000
set_option maxHeartbeats 4000000
/-! Firesseen: more expressions; comprehensions, loops and stores with dice. -/
namespace Fs
open PySem PySem.Spec L2
section
variable {X : Cx} {c : Cfg} {δ δ' δ2 : List Sd} {e a b tg iter elt : Expr} {es ifs : List Expr} {pos p p2 : Pos} {d : D} {ds xs : List D} {i j : Int} {k l : Bool} {x y : Str} {n m : Nat} {ps : List Str} {r : Res} {Dn : Ends} {st : Stmt} {body rest : List Stmt} {ad : Addr} {K : D → List Sd → Prop} {KA : List D → List Sd → Prop} {KT : Bool → List Sd → Prop}
theorem ed_int1 (ha : ED X c δ e (.int i)) (hm : X.mg "int" = none) (hg : Gl X "int" := by rfl) (he : starEach (e :: []) X.env = (false, eval e X.env) :: starEach [] X.env := by rfl) (hpl : (backTo pos (starEach [] X.env)).any (·.1) = false := by rfl) :
    ED X c δ (.Call (.Name "int" p) [e] [] pos) (.int i) := fun F H σ Q S q => by
  refine uE (pe_callTy call_int1 hg hm (by decide +kernel) (pa_cons (sE e) pa_nil he) (by decide) (by decide) he hpl) ?_
  refine ha F H σ _ S fun v F1 H1 s1 d1 => ?_
  exact .inl ⟨i, by rw [dv_int d1], q _ F1 H1 s1 (.int _)⟩
theorem ed_abs (ha : ED X c δ e (.int i)) (hm : X.mg "abs" = none) (hg : Gl X "abs" := by rfl) (he : starEach (e :: []) X.env = (false, eval e X.env) :: starEach [] X.env := by rfl) (hpl : (backTo pos (starEach [] X.env)).any (·.1) = false := by rfl) :
    ED X c δ (.Call (.Name "abs" p) [e] [] pos) (.int (if i < 0 then -i else i)) := fun F H σ Q S q => by
  refine uE (pe_callB call_abs hg hm (by decide +kernel) (pa_cons (sE e) pa_nil he) (by decide) (by decide) he hpl) ?_
  refine ha F H σ _ S fun v F1 H1 s1 d1 => ?_
  exact ⟨i, by rw [dv_int d1], q _ F1 H1 s1 (.int _)⟩
theorem ed_pow (ha : ED X c δ a (.int i)) (hb : ED X c δ b (.int j)) (hc : CPow i j) : ED X c δ (.BinOp a .Pow b p) (.int (i ^ j.toNat)) := fun F H σ Q S q => by
  refine uE (pe_op op_pow (sE a) (sE b)) ?_
  refine ha F H σ _ S fun v F1 H1 s1 d1 => ?_
  refine hb F1 H1 σ _ (S.step s1) fun v2 F2 H2 s2 d2 => ?_
  exact ⟨i, j, dv_int d1, dv_int d2, hc, q _ F2 H2 (s1.trans s2) (.int _)⟩
/-! ### the law's script -/
theorem sq_keep {K0 : PySem.W.Frag} {T : List (Addr × Option Str)} {Mx : List Addr} {F H F' H' : Hp} {q : Addr} {vs : List V} (h : SqL K0 H q vs) (s : Stp T Mx F H F' H') (hq : q ∉ Mx) : SqL K0 H' q vs := by
  rcases h with (h | ⟨o, h⟩) | h
  · exact .inl (.inl (s.ext _ _ h hq (fun _ z => by cases z)))
  · exact .inl (.inr ⟨o, s.ext _ _ h hq (fun _ z => by cases z)⟩)
  · exact .inr h
theorem ed_lenS {ns : List Int} {q : Addr} (hS : SqL X.K c.H0 q (ns.map V.int)) (hq : q ∉ c.Mx) (he0 : EV X c δ e (.ref q)) (hm : X.mg "len" = none) (hg : Gl X "len" := by rfl) (he : starEach (e :: []) X.env = (false, eval e X.env) :: starEach [] X.env := by rfl) (hpl : (backTo pos (starEach [] X.env)).any (·.1) = false := by rfl) :
    ED X c δ (.Call (.Name "len" p) [e] [] pos) (.int ns.length) := fun F H σ Q S q' => by
  refine uE (pe_callB call_len_seq hg hm PySem.boot_len (pa_cons (sE e) pa_nil he) (by decide) (by decide) he hpl) ?_
  refine he0 F H σ _ S fun F1 H1 s1 => ?_
  refine ⟨q, _, rfl, .inl (sq_keep hS (S.step s1).base hq), ?_⟩
  rw [List.length_map]
  exact q' _ F1 H1 s1 (.int _)
theorem ed_ixS {ns : List Int} {q : Addr} {w : Int} (hS : SqL X.K c.H0 q (ns.map V.int)) (hq : q ∉ c.Mx) (he0 : EV X c δ a (.ref q)) (hb : ED X c δ b (.int i)) (h : atI ns i = some w) (hs : PlainIx b := by intro _ _; rfl) : ED X c δ (.Subscript a b p) (.int w) := fun F H σ Q S q' => by
  refine uE (pe_ix ix_seq (sE a) (sE b) hs) ?_
  refine he0 F H σ _ S fun F1 H1 s1 => ?_
  refine hb F1 H1 σ _ (S.step s1) fun v2 F2 H2 s2 d2 => ?_
  have hx : atI (ns.map V.int) i = some (V.int w) := by
    unfold atI at h ⊢
    rw [List.length_map]
    cases z : ixN ns.length i with
    | none => rw [z] at h; cases h
    | some j =>
      rw [z] at h
      show (ns.map V.int)[j]? = _
      rw [List.getElem?_map, show ns[j]? = some w from h]
      rfl
  exact .inl ⟨q, _, i, _, rfl, dv_int d2, sq_keep hS ((S.step s1).step s2).base hq, hx, q' _ F2 H2 (s1.trans s2) (.int w)⟩
theorem el_slS {ns : List Int} {q : Addr} {lo hi : Option Expr} {ol oh : Option Int} {pp : Pos} (hS : SqL X.K c.H0 q (ns.map V.int)) (hq : q ∉ c.Mx) (he0 : EV X c δ a (.ref q)) (hl : EO X c δ lo ol) (hh : EO X c δ hi oh) : EL X c δ (.Subscript a (.Slice lo hi none pp) p) (cutD (ns.map .int) ol oh) := fun F H σ Q S q' => by
  obtain ⟨tl, p1, q1⟩ := hl
  obtain ⟨th, p2, q2⟩ := hh
  refine uE (pe_slice sl_list (sE a) p1 p2) ?_
  refine he0 F H σ _ S fun F1 H1 s1 => ?_
  refine q1 F1 H1 σ _ (S.step s1) fun F2 H2 s2 => ?_
  refine q2 F2 H2 σ _ ((S.step s1).step s2) fun F3 H3 s3 => ?_
  have s := (s1.trans s2).trans s3
  refine ⟨q, _, rfl, sq_keep hS (((S.step s1).step s2).step s3).base hq, fun r2 hr => ?_⟩
  exact q' r2 _ F3 _ (s.trans (Stp.newO s.fz s.tb hr)) (s.dom r2 hr) (fresh_F s hr) upd_same (cut_of (dvAll_ofInts ns) ol oh)
/-! ### comprehensions with dice -/
def EIM (X : Cx) (c : Cfg) (δ : List Sd) (tg iter : Expr) (KA : List D → List Sd → Prop) : Prop := ∀ F H σ R, Sta c F H σ δ → (∀ ds δ' J F' H', KA ds δ' → Sta c F' H' σ δ' → Stp c.T c.Mx F H F' H' → ItF c.T J F' ds → R J H') → tI X tg iter σ H R
theorem EIF.mm (h : EIF X c δ tg iter ds) (hK : KA ds δ) : EIM X c δ tg iter KA := fun F H σ R S q => h F H σ R S fun J F' H' s w => q ds δ J F' H' hK (S.step s) s.wide w
theorem eim_range1 (ha : EM X c δ a fun d δ1 => ∃ i, d = .int i ∧ -(2 ^ 62) ≤ i ∧ i < 2 ^ 62 ∧ KA (rngD 0 i.toNat) δ1) (hm : X.mg "range" = none) (hg : Gl X "range" := by rfl) (hs : starEach [a] X.env = [(false, eval a X.env)] := by rfl) (he : starEach (a :: []) X.env = (false, eval a X.env) :: starEach [] X.env := by rfl) :
    EIM X c δ tg (.Call (.Name "range" p) [a] [] pos) KA := fun F H σ R S q => by
  refine uI (pi_range1 hg hm (pa_cons (sE a) pa_nil he) hs) ?_
  refine ha F H σ _ S fun d δ1 v F1 H1 ⟨i, e1, h1, h2, hK⟩ S1 s1 d1 => ?_
  subst e1
  exact ⟨i, by rw [dv_int d1], h1, h2, q _ δ1 _ F1 H1 hK S1 s1 itr_f⟩
def EPsM (X : Cx) (c : Cfg) (δ : List Sd) (ifs : List Expr) (KT : Bool → List Sd → Prop) : Prop := ∀ F H σ Q, Sta c F H σ δ → (∀ b δ' F' H', KT b δ' → Sta c F' H' σ δ' → Stp c.T c.Mx F H F' H' → Q b H') → tPs X ifs σ H Q
theorem epm_nil (h : KT true δ) : EPsM X c δ [] KT := fun F H σ Q S q => uPs pts_nil (q true δ F H h S (Stp.refl S.fz S.tb))
theorem epm_one (h : ETM X c δ e KT) : EPsM X c δ [e] KT := fun F H σ Q S q => uPs (pts_one (sT e)) (h F H σ _ S q)
theorem wipeD_get : ∀ (vs : List Nat) (δ : List Sd) (i : Nat) (y : Sd), (wipeD δ vs)[i]? = some y → (i ∈ vs → y = Sd.un) ∧ (i ∉ vs → δ[i]? = some y)
  | [], δ, i, y, h => ⟨fun z => (by cases z), fun _ => h⟩
  | v :: vs, δ, i, y, h => by
    unfold wipeD at h
    by_cases hv : v = i
    · subst hv
      have hl : v < (wipeD δ vs).length := by
        rcases Nat.lt_or_ge v (wipeD δ vs).length with z | z
        · exact z
        · rw [List.getElem?_eq_none (by rw [List.length_set]; exact z)] at h; cases h
      rw [List.getElem?_set_self hl] at h
      exact ⟨fun _ => (Option.some.inj h).symm, fun z => absurd List.mem_cons_self z⟩
    · rw [List.getElem?_set_ne hv] at h
      obtain ⟨h1, h2⟩ := wipeD_get vs δ i y h
      refine ⟨fun z => h1 ?_, fun z => h2 fun w => z (List.mem_cons_of_mem _ w)⟩
      rcases List.mem_cons.mp z with w | w
      · exact absurd w.symm hv
      · exact w
theorem Sta.unwipe {F H : Hp} {σ : L2.St} {vs : List Nat} (S : Sta c F H (L2.wipe σ vs) (wipeD δ vs)) : Sta c F H σ (wipeD δ vs) := by
  have hlen : σ.length = (wipeD δ vs).length := by rw [← S.sl.len, wipe_length]
  have same : ∀ i y, (wipeD δ vs)[i]? = some y → y = Sd.un ∨ σ[i]? = (L2.wipe σ vs)[i]? := fun i y h => by
    obtain ⟨h1, h2⟩ := wipeD_get vs δ i y h
    by_cases hi : i ∈ vs
    · exact .inl (h1 hi)
    · exact .inr (by rw [wipe_get, if_neg hi])
  refine ⟨S.base, S.pin, hlen, fun i y h => ?_, fun i j x y p hij e1 e2 o1 o2 s1 => ?_⟩
  · rcases same i y h with z | z
    · subst z; trivial
    · rw [z]; exact S.sl.ok i y h
  · rcases same i x e1 with z | z
    · subst z; cases o1
    · rcases same j y e2 with w | w
      · subst w; cases o2
      · rw [z] at s1
        rw [w]
        exact S.sl.sep i j x y p hij e1 e2 o1 o2 s1
/-- what owns in the first owns in the second -/
inductive Ow : List Sd → List Sd → Prop
  | nil : Ow [] []
  | cons {x y : Sd} {a b : List Sd} : (x.own = true → y.own = true) → Ow a b → Ow (x :: a) (y :: b)
theorem Ow.get : ∀ {a b : List Sd}, Ow a b → ∀ (i : Nat) y, a[i]? = some y → y.own = true → ∃ y', b[i]? = some y' ∧ y'.own = true
  | _, _, .nil, i, y, e, _ => by simp at e
  | _, _, .cons h _, 0, y, e, o => by
    have e' := Option.some.inj e
    subst e'
    exact ⟨_, rfl, h o⟩
  | _, _, .cons _ h, i + 1, y, e, o => h.get i y e o
/-- an object of nobody is written -/
theorem Sta.written {F H : Hp} {σ : L2.St} {q : Addr} {o : HO} {vs : List V} (S : Sta c F H σ δ) (hF : F q = none) (h0 : c.H0 q = none) (hH : H q = some (.lst vs)) (hn : ∀ (j : Nat) (y : Sd), δ[j]? = some y → y.own = true → σ[j]? ≠ some (some (V.ref q))) : Sta c F (upd H q o) σ δ := by
  refine ⟨⟨S.base.sub, fz_upd S.base.fz hF, fun x u e n1 n2 => ?_, fun x e => ?_, S.base.new, tb_upd S.base.tb (fun ps z => by rw [hH] at z; cases z) (.inr fun d z w => by rw [hH] at w; unfold LamX.CodeO at w; cases w)⟩, S.pin, S.sl.len, fun i y ey => ?_, S.sl.sep⟩
  · rw [upd_ne (ne_of_none e h0)]
    exact S.base.ext x u e n1 n2
  · by_cases hx : x = q
    · rw [hx]; exact h0
    · rw [upd_ne hx] at e; exact S.base.dom x e
  · have old := S.sl.ok i y ey
    cases ho : y.own with
    | false =>
      cases y with
      | un => trivial
      | d x => exact old
      | v x => exact old
      | z x => exact old
      | _ => cases ho
    | true =>
      obtain ⟨r, b1, b2, b3, b4⟩ := old.own ho
      have hr : r ≠ q := fun z => by
        rw [z] at b1
        exact hn i y ey ho b1
      have b4' : OwnAt F (upd H q o) r y := by
        cases y with
        | l ds => obtain ⟨us, e1, e2⟩ := b4; exact ⟨us, by rw [upd_ne hr]; exact e1, e2⟩
        | k ds => obtain ⟨us, e1, e2⟩ := b4; exact ⟨us, by rw [upd_ne hr]; exact e1, e2⟩
        | t ds => obtain ⟨us, e1, e2⟩ := b4; exact ⟨us, by rw [upd_ne hr]; exact e1, e2⟩
        | m _ _ => obtain ⟨e0, us, e1, e2⟩ := b4; exact ⟨e0, us, by rw [upd_ne hr]; exact e1, e2⟩
        | mt _ _ => obtain ⟨e0, us, e1, e2⟩ := b4; exact ⟨e0, us, by rw [upd_ne hr]; exact e1, e2⟩
        | _ => cases ho
      cases y with
      | l ds => exact ⟨r, b1, b2, b3, b4'⟩
      | k ds => exact ⟨r, b1, b2, b3, b4'⟩
      | t ds => exact ⟨r, b1, b2, b3, b4'⟩
      | m _ _ => exact ⟨r, b1, b2, b3, b4'⟩
      | mt _ _ => exact ⟨r, b1, b2, b3, b4'⟩
      | _ => cases ho
theorem eml_lc {scope : Scope} {own : List (Str × Nat)} (ok : BlkOk X.N X.env.scope scope own) (hc : X.calm = true) (hN : X.N.Nodup) (hMx : ∀ q ∈ c.Mx, c.H0 q ≠ none) (J : Nat → List D → List Sd → Prop)
    (hi : EIM X c δ tg iter fun ds δ0 => ds.length ≤ sizeLine ∧ wipeD δ0 (own.map (·.2)) = δ0 ∧ J 0 [] δ0 ∧ (∀ i acc δi, J i acc δi → acc.length ≤ i ∧ Ow δi δ0) ∧ (∀ acc δi, J ds.length acc δi → KA acc δi) ∧
      ∀ i x acc δi, ds[i]? = some x → J i acc δi → ∃ δx, (∀ s H C cl fp, EG (Blk X scope s H C cl fp) c δi tg x (own.map (·.2)) δx) ∧ ∀ s H C cl fp, EPsM (Blk X scope s H C cl fp) c δx ifs fun b δ1 =>
        (b = true → ∀ s H C cl fp, EM (Blk X scope s H C cl fp) c δ1 elt fun d δ2 => J (i + 1) (acc ++ [d]) (wipeD δ2 (own.map (·.2)))) ∧ (b = false → J (i + 1) acc (wipeD δ1 (own.map (·.2)))))
    (hs : ∀ x, foldedSetIterable iter X.env x = pure x := by intro _; rfl) : EML X c δ (.ListComp elt [⟨tg, iter, ifs, 0⟩] scope pos) KA := fun F H σ Q S q => by
  refine uE (pe_lc hc hN (sI tg iter) ok sbG sbP sbE hs) ?_
  refine hi F H σ _ S fun ds δ0 It F1 H1 ⟨hz, hw0, j0, jl, jend, step⟩ S1 s1 w1 => ?_
  generalize hvs : own.map (·.2) = vs at *
  intro Dn hD
  have hDF := fresh_F S1.base hD
  have h00 : c.H0 Dn = none := S1.base.dom Dn hD
  have Dno : Dn ∉ c.Mx := fun z => hMx Dn z h00
  have sD : Stp c.T [] F1 H1 F1 (upd H1 Dn (.lst [])) := Stp.newO S1.fz S1.tb hD
  have nsl : ∀ {δi : List Sd}, Ow δi δ0 → ∀ (j : Nat) (y : Sd), δi[j]? = some y → y.own = true → σ[j]? ≠ some (some (V.ref Dn)) := fun ow j y e o => by
    obtain ⟨y', e', o'⟩ := ow.get j y e o
    exact S1.fresh hD j y' e' o'
  have wsl : ∀ j : Nat, σ[j]? ≠ some (some (V.ref Dn)) → (L2.wipe σ vs)[j]? ≠ some (some (V.ref Dn)) := fun j h z => by
    obtain ⟨z1, _⟩ := wipe_some z
    exact h z1
  refine ⟨fun i m H' => m = ds.length - i ∧ i ≤ ds.length ∧ ∃ F' acc us δi δw, J i acc δi ∧ δi = wipeD δw vs ∧ Sta c F' H' (L2.wipe σ vs) δi ∧ Stp c.T c.Mx F1 H1 F' H' ∧ F' Dn = none ∧ H' Dn = some (.lst us) ∧ DvAll F' us acc,
    ⟨ds.length, by simp, Nat.zero_le _, F1, [], [], δ0, δ0, j0, hw0.symm, ?_, sD.wide, hDF, upd_same, .nil⟩, ?_⟩
  · have := (S1.step sD).wipe vs
    rw [hw0] at this
    exact this
  rintro i m H2 ⟨rfl, hi2, F2, acc, us, δi, δw, hJ, hδw, S2, s2, f2, e2, k2⟩
  obtain ⟨wg, ws⟩ := w1 F2 H2 s2.sub s2.fz s2.tb i
  by_cases hlt : i < ds.length
  · refine .inr ?_
    have hx : ds[i]? = some ds[i] := List.getElem?_eq_getElem hlt
    obtain ⟨go, wy⟩ := wg _ hx
    obtain ⟨jle, jow⟩ := jl i acc δi hJ
    refine ⟨go, fun H' => ∃ F' acc' us' δi' δw', J (i + 1) acc' δi' ∧ δi' = wipeD δw' vs ∧ Sta c F' H' (L2.wipe σ vs) δi' ∧ Stp c.T c.Mx F1 H1 F' H' ∧ F' Dn = none ∧ H' Dn = some (.lst us') ∧ DvAll F' us' acc', fun H' hN' => ⟨ds.length - (i + 1), by omega, rfl, hlt, hN'⟩, fun v H3 hy => ?_⟩
    obtain ⟨F3, s3, d3⟩ := wy v H3 hy
    obtain ⟨δx, hg, ht⟩ := step i _ acc δi hx hJ
    intro s' Hs C cl fp
    refine hg s' Hs C cl fp F3 H3 _ v _ (S2.step s3) d3 fun σ4 S4 l4 k4 => ?_
    have hw4 : L2.wipe σ4 vs = L2.wipe σ vs := wipe_eq (l4.trans (wipe_length σ vs)) k4
    refine ⟨hw4, ?_⟩
    intro s'' Hs2 C2 cl2 fp2
    refine ht s'' Hs2 C2 cl2 fp2 F3 H3 σ4 _ S4 fun b δ1 F5 H5 ⟨kt, kf⟩ S5 s5 => ?_
    have e3 := s3.ext _ _ e2 (by simp) (fun _ z => by cases z)
    have e5 : H5 Dn = some (.lst us) := s5.ext _ _ e3 Dno (fun _ z => by cases z)
    have f5 : F5 Dn = none := s5.free (s3.free f2 e2) e3
    have s15 := (s2.trans s3.wide).trans s5
    have k5 := s5.dvs (s3.dvs k2)
    cases b with
    | false =>
      refine iteF ⟨F5, acc, us, _, δ1, kf rfl, rfl, ?_, s15, f5, e5, k5⟩
      rw [← hw4]
      exact S5.wipe vs
    | true =>
      refine iteT ?_
      intro s3' Hs3 C3 cl3 fp3
      refine kt rfl s3' Hs3 C3 cl3 fp3 F5 H5 σ4 _ S5 fun d δ2 u F6 H6 hJ6 S6 s6 d6 => ?_
      have e6 : H6 Dn = some (.lst us) := s6.ext _ _ e5 Dno (fun _ z => by cases z)
      have f6 : F6 Dn = none := s6.free f5 e5
      have s16 := s15.trans s6
      have hul := dvAll_len k2
      obtain ⟨_, ow6⟩ := jl _ _ _ hJ6
      refine ⟨us, e6, by omega, F6, acc ++ [d], us ++ [u], _, δ2, hJ6, rfl, ?_, ⟨s16.sub, fz_upd s16.fz f6, fun x o z n m => ?_, fun x z => ?_, s16.new, tb_upd s16.tb (fun ps z => by rw [e6] at z; cases z) (.inr fun d' q' z => by rw [e6] at z; unfold LamX.CodeO at z; cases z)⟩, f6, upd_same, dvAll_app (s6.dvs k5) (.cons d6 .nil)⟩
      · rw [← hw4]
        refine (S6.wipe vs).written f6 h00 e6 fun j y ey oy => ?_
        rw [hw4]
        exact wsl j (nsl ow6 j y ey oy)
      · rw [upd_ne (ne_of_none z hD)]
        exact s16.ext x o z n m
      · by_cases hx2 : x = Dn
        · rw [hx2, upd_same] at z; cases z
        · rw [upd_ne hx2] at z; exact s16.dom x z
  · have : i = ds.length := by omega
    subst this
    subst hδw
    obtain ⟨_, ow⟩ := jl _ _ _ hJ
    exact .inl ⟨ws (Nat.le_refl _), q acc _ Dn us F2 H2 (jend _ _ hJ) S2.unwipe (s1.trans s2) (nsl ow) h00 f2 e2 k2⟩
/-! ### loops and stores with dice -/
theorem Sta.setD {F H : Hp} {σ : L2.St} {v : V} {x : D} (S : Sta c F H σ δ) (i : Nat) (h : Dv F v x) : Sta c F H (σ.set i (some v)) (δ.set i (.d x)) := S.set i rfl ⟨v, rfl, h⟩

theorem w_forM (hp : PassesOwn (model X.prog X.w) X.A X.env X.xe) (hc : X.calm = true)
    (hi : EIM X c δ tg iter fun ds δ0 => ∃ I : Nat → List Sd → Prop, I 0 δ0 ∧ (∀ (t : Nat) (y : D) (δ1 : List Sd), ds[t]? = some y → I t δ1 → ∀ Fp, Sub c.Fp Fp → ∃ is δ2, EG X (c.pin Fp) δ1 tg y is δ2 ∧
      WS X (c.pin Fp) δ2 body { Dn with nx := fun σ H => ∃ F δ3, I (t + 1) δ3 ∧ Sta (c.pin Fp) F H σ δ3, ct := fun σ H => ∃ F δ3, I (t + 1) δ3 ∧ Sta (c.pin Fp) F H σ δ3, bk := Dn.nx }) ∧ (∀ δ1, I ds.length δ1 → Nx c δ1 Dn.nx))
    (hs : ∀ x, foldedSetIterable iter X.env x = pure x := by intro _; rfl) : W1 X c δ (.For tg iter body [] pos) Dn := fun F H σ S => by
  refine uS (ps_for hp hc (sI tg iter) (sG tg) (sSs body) hs) ?_
  refine hi F H σ _ S fun ds δ0 J F1 H1 ⟨I, h0, hb, hd⟩ S0 s1 w1 => ?_
  have hsub : Sub c.Fp F1 := S0.pin
  refine ⟨fun t m σ' H' => m = ds.length - t ∧ t ≤ ds.length ∧ ∃ F' δ1, I t δ1 ∧ Sta (c.pin F1) F' H' σ' δ1, ⟨ds.length, by simp, Nat.zero_le _, F1, δ0, h0, S0.pinned (Sub.refl F1)⟩, ?_⟩
  rintro t m σ' H' ⟨rfl, ht, F', δ1, hI, S1⟩
  obtain ⟨wg, ws⟩ := w1 F' H' S1.pin S1.fz S1.tb t
  by_cases hlt : t < ds.length
  · have hx : ds[t]? = some ds[t] := List.getElem?_eq_getElem hlt
    obtain ⟨go, wy⟩ := wg _ hx
    refine .inr ⟨go, fun σ' H' => ∃ F δ3, I (t + 1) δ3 ∧ Sta (c.pin F1) F H' σ' δ3, fun σ2 H2 ⟨F2, δ3, a1, a2⟩ => ⟨ds.length - (t + 1), by omega, rfl, hlt, F2, δ3, a1, a2⟩, fun v H2 hy => ?_⟩
    obtain ⟨F2, s2, d2⟩ := wy v H2 hy
    obtain ⟨is, δ2, hg, hw⟩ := hb t _ δ1 hx hI F1 hsub
    refine hg F2 H2 σ' v _ (S1.step s2) d2 fun σ3 S3 _ _ => ?_
    exact hw F2 H2 σ3 S3
  · have : t = ds.length := by omega
    subst this
    exact .inl ⟨ws (Nat.le_refl _), hd δ1 hI F' H' σ' (S1.unpin hsub)⟩
theorem w_appendM (m : Nat) {ap cp : Pos} {ds0 : List D} (hδ : δ[m]? = some (.l ds0)) (ha : EM X c δ e fun d δ1 => ∃ ds, δ1[m]? = some (.l ds) ∧ ds.length < sizeLine ∧ Nx c (δ1.set m (.l (ds ++ [d]))) Dn.nx)
    (hN : X.N[m]? = some x := by rfl) (hv : Vis X.env.scope x := by first | exact Or.inl rfl | exact Or.inr (Or.inl rfl) | exact Or.inr (Or.inr rfl)) (hd : (x == ("__debug__" : Str)) = false := by decide) (hcd : (x == ("__classdict__" : Str)) = false := by decide)
    (hbase : attributeBase (.Name x p) "append" X.env (eval (.Name x p) X.env) = eval (.Name x p) X.env := by rfl)
    (hfew : ((backTo cp (starEach (e :: []) X.env)).all (fun x => !x.1) && (backToKw cp (keywordEach [] X.env)).all (fun x => x.1.isSome) && decide ((e :: ([] : List Expr)).length + ([] : List Keyword).length + (if ([] : List Keyword).isEmpty then 0 else 1) < 30)) = true := by rfl)
    (hline : (ap.endLine == cp.line) = true := by rfl) (he : starEach (e :: []) X.env = (false, eval e X.env) :: starEach [] X.env := by rfl) (hpl : (backTo cp (starEach [] X.env)).any (·.1) = false := by rfl)
    (hs : swapsWith (.Call (.Attribute (.Name x p) "append" ap) [e] [] cp) none pos.line X.env = pure false := by rfl) : W1 X c δ (.Expr (.Call (.Attribute (.Name x p) "append" ap) [e] [] cp) pos) Dn := fun F H σ S => by
  obtain ⟨r, vs, e1, e2, e3, e4, e5⟩ := S.lst hδ
  refine uS (ps_expr (pe_bm PySem.F.plainAttrs_list PySem.F.slot_list_append PySem.F.type_list_append mt_append (pe_var hN hv hd hcd) (pa_cons (sE e) pa_nil he) hbase hfew hline he hpl) hs) ?_
  refine ⟨_, e1, tyL (F := F) e4, ?_⟩
  refine ha F H σ _ S fun d δ1 v F1 H1 ⟨ds, hδ1, hl, hK⟩ S1 s1 d1 => ?_
  obtain ⟨r', us, g1, g2, g3, g4, g5⟩ := S1.lst hδ1
  rw [e1] at g1
  cases g1
  refine ⟨r, us, v, rfl, rfl, g4, by rw [dvAll_len g5]; exact hl, ?_⟩
  exact hK F1 _ σ (S1.write hδ1 rfl e1 rfl ⟨us ++ [v], upd_same, dvAll_app g5 (.cons d1 .nil)⟩ (fun _ z => by cases z))
/-- any target -/
theorem w_asgM (he : EM X c δ e fun d δ1 => ∃ is δ2, EG X c δ1 tg d is δ2 ∧ Nx c δ2 Dn.nx) (hs : swapsWithSole [tg] e pos.line X.env = pure false := by rfl) (hw : swappedStores [tg] e X.env = pure none := by rfl)
    (h1 : (assignEach [tg] X.env).map (·.2) = [assign tg X.env] := by rfl) : W1 X c δ (.Assign [tg] e pos) Dn := fun F H σ S => by
  refine uS (ps_asg (sE e) (sG tg) hs hw h1) ?_
  refine he F H σ _ S fun d δ1 v F1 H1 ⟨is, δ2, hg, hn⟩ S1 _ d1 => ?_
  exact hg F1 H1 σ v _ S1 d1 fun σ' S' _ _ => hn F1 H1 σ' S'
/-- x, y = a, b with plain locals -/
theorem w_par2 (i1 i2 : Nat) {px py pt p9 : Pos} {kt k2 : Nat} (hN : X.N.Nodup) (hc : X.calm = true) (ha : EMA X c δ [a, b] fun ds δ1 => ∃ d1 d2, ds = [d1, d2] ∧ Nx c ((δ1.set i1 (.d d1)).set i2 (.d d2)) Dn.nx) (hij : i1 ≠ i2 := by decide)
    (hi : X.N[i1]? = some x := by rfl) (hj : X.N[i2]? = some y := by rfl) (hx : X.env.scope.names.lookup x = some .local := by rfl) (hy : X.env.scope.names.lookup y = some .local := by rfl)
    (hw : swappedStores [.Tuple [.Name x px, .Name y py] kt pt] (.Tuple [a, b] k2 p9) X.env = pure (some [x, y]) := by rfl) (hs : swapsWithSole [.Tuple [.Name x px, .Name y py] kt pt] (.Tuple [a, b] k2 p9) pos.line X.env = pure false := by rfl) :
    W1 X c δ (.Assign [.Tuple [.Name x px, .Name y py] kt pt] (.Tuple [a, b] k2 p9) pos) Dn := fun F H σ S => by
  refine uS (ps_par hc hN hi hj hij hx hy (sA [a, b]) hw hs) ?_
  refine ha F H σ _ S fun ds δ1 vs F1 H1 ⟨d1, d2, e1, hK⟩ S1 _ v1 => ?_
  subst e1
  cases v1 with
  | cons h1 h2 =>
    cases h2 with
    | cons h2 h3 =>
      cases h3
      exact ⟨_, _, rfl, hK F1 H1 _ ((S1.setD i1 h1).setD i2 h2)⟩
theorem w_par3 (i1 i2 i3 : Nat) {e3 : Expr} {z : Str} {px py pz pt p9 : Pos} {kt k2 : Nat} (hN : X.N.Nodup) (hc : X.calm = true) (ha : EMA X c δ [a, b, e3] fun ds δ1 => ∃ d1 d2 d3, ds = [d1, d2, d3] ∧ Nx c (((δ1.set i1 (.d d1)).set i2 (.d d2)).set i3 (.d d3)) Dn.nx) (hij : i1 ≠ i2 := by decide) (hil : i1 ≠ i3 := by decide) (hjl : i2 ≠ i3 := by decide)
    (hi : X.N[i1]? = some x := by rfl) (hj : X.N[i2]? = some y := by rfl) (hl : X.N[i3]? = some z := by rfl) (hx : X.env.scope.names.lookup x = some .local := by rfl) (hy : X.env.scope.names.lookup y = some .local := by rfl) (hz : X.env.scope.names.lookup z = some .local := by rfl)
    (hw : swappedStores [.Tuple [.Name x px, .Name y py, .Name z pz] kt pt] (.Tuple [a, b, e3] k2 p9) X.env = pure (some [x, y, z]) := by rfl) (hs : swapsWithSole [.Tuple [.Name x px, .Name y py, .Name z pz] kt pt] (.Tuple [a, b, e3] k2 p9) pos.line X.env = pure false := by rfl) :
    W1 X c δ (.Assign [.Tuple [.Name x px, .Name y py, .Name z pz] kt pt] (.Tuple [a, b, e3] k2 p9) pos) Dn := fun F H σ S => by
  refine uS (ps_par3 hc hN hi hj hl hij hil hjl hx hy hz (sA [a, b, e3]) hw hs) ?_
  refine ha F H σ _ S fun ds δ1 vs F1 H1 ⟨d1, d2, d3, e1, hK⟩ S1 _ v1 => ?_
  subst e1
  cases v1 with
  | cons h1 h2 =>
    cases h2 with
    | cons h2 h3 =>
      cases h3 with
      | cons h3 h4 =>
        cases h4
        exact ⟨_, _, _, rfl, hK F1 H1 _ (((S1.setD i1 h1).setD i2 h2).setD i3 h3)⟩
/-- x, y = a, [] with plain locals -/
theorem w_parNil (i1 i2 : Nat) {px py pt p9 pl : Pos} {kt k2 : Nat} (hN : X.N.Nodup) (hc : X.calm = true) (ha : EM X c δ a fun d1 δ1 => Nx c ((δ1.set i1 (.d d1)).set i2 (.l [])) Dn.nx) (hij : i1 ≠ i2 := by decide)
    (hi : X.N[i1]? = some x := by rfl) (hj : X.N[i2]? = some y := by rfl) (hx : X.env.scope.names.lookup x = some .local := by rfl) (hy : X.env.scope.names.lookup y = some .local := by rfl) (hs1 : starEach [a, .List [] pl] X.env = (false, eval a X.env) :: starEach [.List [] pl] X.env := by rfl) (hs2 : starEach [.List [] pl] X.env = (false, eval (.List [] pl) X.env) :: starEach [] X.env := by rfl)
    (hw : swappedStores [.Tuple [.Name x px, .Name y py] kt pt] (.Tuple [a, .List [] pl] k2 p9) X.env = pure (some [x, y]) := by rfl) (hs : swapsWithSole [.Tuple [.Name x px, .Name y py] kt pt] (.Tuple [a, .List [] pl] k2 p9) pos.line X.env = pure false := by rfl) :
    W1 X c δ (.Assign [.Tuple [.Name x px, .Name y py] kt pt] (.Tuple [a, .List [] pl] k2 p9) pos) Dn := fun F H σ S => by
  refine uS (ps_par hc hN hi hj hij hx hy (pa_cons (sE a) (pa_cons (sE (.List [] pl)) pa_nil hs2) hs1) hw hs) ?_
  refine ha F H σ _ S fun d1 δ1 v F1 H1 hK S1 _ v1 => ?_
  have hnil : EL X c δ1 (.List [] pl) [] := el_lst ea_nil
  refine hnil F1 H1 σ _ S1 fun r us F2 H2 s2 h1 h2 h3 h4 => ?_
  refine ⟨v, .ref r, rfl, hK F2 H2 _ (((S1.step s2).setD i1 (s2.dv v1)).setO i2 h2 (S1.base.dom _ h1) rfl ⟨us, h3, h4⟩ fun j y' hj ey oy z => ?_)⟩
  by_cases hj2 : i1 = j
  · subst hj2
    rcases Nat.lt_or_ge i1 δ1.length with hl | hl
    · rw [List.getElem?_set_self hl] at ey
      cases ey
      cases oy
    · rw [List.getElem?_eq_none (by rw [List.length_set]; exact hl)] at ey
      cases ey
  · rw [List.getElem?_set_ne hj2] at ey z
    exact S1.fresh h1 j y' ey oy z
/-- .. one of them a cell -/
theorem w_asgNil (i1 i2 : Nat) {px py pt p9 pl : Pos} {kt k2 : Nat} (hN : X.N.Nodup) (hc : X.calm = true) (ha : EM X c δ a fun d1 δ1 => Nx c ((δ1.set i1 (.d d1)).set i2 (.l [])) Dn.nx) (hij : i1 ≠ i2 := by decide)
    (hi : X.N[i1]? = some x := by rfl) (hj : X.N[i2]? = some y := by rfl) (hx : Loc X.env.scope x := by first | exact Or.inl rfl | exact Or.inr rfl) (hy : Loc X.env.scope y := by first | exact Or.inl rfl | exact Or.inr rfl)
    (hfx : X.fn x = true ∨ X.env.scope.names.lookup x = some .local := by first | exact .inl rfl | exact .inr rfl) (hfy : X.fn y = true ∨ X.env.scope.names.lookup y = some .local := by first | exact .inl rfl | exact .inr rfl)
    (hs1 : starEach [a, .List [] pl] X.env = (false, eval a X.env) :: starEach [.List [] pl] X.env := by rfl) (hs2 : starEach [.List [] pl] X.env = (false, eval (.List [] pl) X.env) :: starEach [] X.env := by rfl)
    (hn : (assignEach [.Name x px, .Name y py] X.env).length = 2 := by rfl) (hst : (assignEach [.Name x px, .Name y py] X.env).findIdx? (·.1) = none := by rfl) (ht1 : (assignEach [.Name x px, .Name y py] X.env).map (·.2) = assign (.Name x px) X.env :: (assignEach [.Name y py] X.env).map (·.2) := by rfl) (ht2 : (assignEach [.Name y py] X.env).map (·.2) = assign (.Name y py) X.env :: (assignEach [] X.env).map (·.2) := by rfl)
    (hs : swapsWithSole [.Tuple [.Name x px, .Name y py] kt pt] (.Tuple [a, .List [] pl] k2 p9) pos.line X.env = pure false := by rfl) (hw : swappedStores [.Tuple [.Name x px, .Name y py] kt pt] (.Tuple [a, .List [] pl] k2 p9) X.env = pure none := by rfl)
    (h1 : (assignEach [.Tuple [.Name x px, .Name y py] kt pt] X.env).map (·.2) = [assign (.Tuple [.Name x px, .Name y py] kt pt) X.env] := by rfl) :
    W1 X c δ (.Assign [.Tuple [.Name x px, .Name y py] kt pt] (.Tuple [a, .List [] pl] k2 p9) pos) Dn := fun F H σ S => by
  refine uS (ps_asg (pe_tup (pa_cons (sE a) (pa_cons (sE (.List [] pl)) pa_nil hs2) hs1)) (pg_tup (n := 2) hc (pgs_cons (pg_name hN hi hx hfx) (pgs_cons (pg_name hN hj hy hfy) pgs_nil ht2) ht1) hn hst) hs hw h1) ?_
  refine ha F H σ _ S fun d1 δ1 v F1 H1 hK S1 _ v1 => ?_
  have hnil : EL X c δ1 (.List [] pl) [] := el_lst ea_nil
  refine hnil F1 H1 σ _ S1 fun r us F2 H2 s2 h1 h2 h3 h4 => ?_
  refine ⟨of_decide_eq_true rfl, fun q hq => ?_⟩
  refine ⟨q, [v, .ref r], rfl, SqT.of upd_same, rfl, v, [.ref r], rfl, .ref r, [], rfl, rfl, ?_⟩
  have s3 : Stp c.T [] F2 H2 F2 (upd H2 q (.tup [v, .ref r])) := Stp.newO s2.fz s2.tb hq
  have s23 := s2.trans s3
  have h3' : upd H2 q (.tup [v, .ref r]) r = some (.lst us) := by rw [upd_ne (fun z => by rw [z, hq] at h3; cases h3)]; exact h3
  refine hK F2 _ _ (((S1.step s23).setD i1 (s2.dv v1)).setO i2 h2 (S1.base.dom _ h1) rfl ⟨us, h3', h4⟩ fun j y' hj ey oy z => ?_)
  by_cases hj2 : i1 = j
  · subst hj2
    rcases Nat.lt_or_ge i1 δ1.length with hl | hl
    · rw [List.getElem?_set_self hl] at ey
      cases ey
      cases oy
    · rw [List.getElem?_eq_none (by rw [List.length_set]; exact hl)] at ey
      cases ey
  · rw [List.getElem?_set_ne hj2] at ey z
    exact S1.fresh h1 j y' ey oy z
end
end Fs

set_option Elab.async false
set_option linter.all false
set_option maxRecDepth 100000
set_option maxHeartbeats 4000000
/-! Firesseen: _law_refused(lambda: ..), beside other tables. -/
namespace Fs
open PySem PySem.Spec L2 PyProof.Rows LamX
/-- behind a lambda's making: its table may have grown, a code object may be new -/
structure Grown (P : Addr) (q : Str) (H H1 : Hp) : Prop where
  tab : TabS H1 P q
  was : TabS H P q
  rest : ∀ b, b ≠ P → H1 b = H b ∨ (H b = none ∧ ∃ c z, H1 b = some (CodeO c z))
section
variable {X : Cx} {pins : List (Addr × Obj)} {σ : L2.St} {H : Hp} {s : Shared}
theorem lam_make3 {c P : Addr} {params : Arguments} {body : Expr} {scope : Scope} {pos : Pos} {E : Value → Shared → Prop} {Q : Value → Shared → Prop} (I : Inv X pins σ H s) (TB : LamX.TabB X.base X.mg c P) (hcode : X.env.code = .ref c)
    (hT : TabS H P (X.env.qual ++ "<lambda>")) (hdef : defaultsOf params X.env = ([], [])) (hfree : ∀ y ∈ scope.names, y.2 = .free → ∃ c, X.env.cells.lookup y.1 = some c)
    (h : ∀ (f c' : Addr) (pm ctv : Value) (H1 : Hp) (s' : Shared), Inv X pins σ H1 s' → Grown P (X.env.qual ++ "<lambda>") H H1 →
      s'.heap.get? f = some (PySem.W.kla_obj "<lambda>" (X.env.qual ++ "<lambda>") params body scope (cloFrom X.env.cells scope.names []) pm c' ctv) → H1 f = none → f ∉ frs X.stack → H1 c' = some (CodeO c' (X.env.qual ++ "<lambda>")) → Q (.ref f) s') :
    wpAny (model X.prog X.w) X.A (eval (.Lambda params body scope pos) X.env) Q E s := by
  obtain ⟨ps, hP, ht, ha⟩ := id hT
  have hP' : s.heap.get? P = some { cls := .none, data := .fields ps } := I.hok P _ hP
  have nofr : ∀ f, s.heap.objs.size ≤ f → f ∉ frs X.stack := fun f hf z => by
    obtain ⟨_, o, ho, _⟩ := I.stack.mem z
    exact absurd (Nat.lt_of_lt_of_le (Heap.lt_size ho) hf) (Nat.lt_irrefl _)
  refine PySem.W.kla_eval hdef ?_
  cases hc : codeAmong pos ps.toList with
  | some cv =>
    obtain ⟨c', rfl, hco⟩ := ha pos cv hc
    refine PySem.W.kla_makeFunctionHit (mg := X.mg) (c := c) (P := P) (ps := ps) (closure_ok hfree) I.ok.glob (ns_keep I.mod.glob I.bk) hcode (TB.code.keeps I.bk) hP' ht hc (TB.bm.keeps I.bk) fun ctv h' tk hx hsz => ?_
    refine h h'.objs.size c' ((X.mg "__name__").getD .none) ctv H _ (I.kept fun b o e => Heap.get?_push_of_some _ (hx b o e)) ⟨hT, hT, fun b _ => .inl rfl⟩ (Heap.get?_push_size _ rfl) (I.hok.fresh hsz) (nofr _ hsz) hco
  | none =>
    refine PySem.W.kla_makeFunction (mg := X.mg) (c := c) (P := P) (ps := ps) (closure_ok hfree) I.ok.glob (ns_keep I.mod.glob I.bk) hcode (TB.code.keeps I.bk) hP' ht hc TB.gP (TB.bm.keeps I.bk) fun c' ctv h' tk hx hge hlt hrec htb => ?_
    obtain ⟨c2, oc, vs, t, e2, hoc, hd, hv⟩ := hrec
    cases e2
    have hsz : s.heap.objs.size ≤ h'.objs.size := Nat.le_trans hge (Nat.le_of_lt hlt)
    have nC : H c' = none := I.hok.fresh hge
    have hPc : P ≠ c' := fun z => by rw [← z, hP] at nC; cases nC
    have I1 := inv_table (t' := tk) (more := #[rawInt pos.line, rawInt pos.col, .ref c']) (h' := h'.push (PySem.W.kla_obj "<lambda>" (X.env.qual ++ "<lambda>") params body scope (cloFrom X.env.cells scope.names []) ((X.mg "__name__").getD .none) c' ctv)) I hP
      (fun b o hb e => Heap.get?_push_of_some _ (hx b o hb e)) (Heap.get?_push_of_some _ htb) hge ⟨oc, vs, t, Heap.get?_push_of_some _ hoc, hd, hv⟩
    have eL : (ps ++ #[rawInt pos.line, rawInt pos.col, .ref c']).toList = ps.toList ++ [rawInt pos.line, rawInt pos.col, .ref c'] := by simp
    have hG : Grown P (X.env.qual ++ "<lambda>") H (upd (upd H P (.tbl (ps ++ #[rawInt pos.line, rawInt pos.col, .ref c']))) c' (CodeO c' (X.env.qual ++ "<lambda>"))) := by
      refine ⟨⟨_, by rw [upd_ne hPc, upd_same], by rw [eL]; exact PySem.TriplesOk_snoc _ _ _ _ ht, fun p' cv hcv => ?_⟩, hT, fun b hb => ?_⟩
      · rw [eL] at hcv
        rcases among_app _ ht hcv with z | z
        · obtain ⟨c0, e1, e2⟩ := ha p' cv z
          have n1 : c0 ≠ c' := fun w => by rw [w, nC] at e2; cases e2
          have n2 : c0 ≠ P := fun w => by
            rw [w, hP] at e2
            exact codeO_ne ps (Option.some.inj e2).symm
          exact ⟨c0, e1, by rw [upd_ne n1, upd_ne n2]; exact e2⟩
        · exact ⟨c', z, upd_same⟩
      · by_cases hbc : b = c'
        · rw [hbc, upd_same]
          exact .inr ⟨nC, _, _, rfl⟩
        · rw [upd_ne hbc, upd_ne hb]
          exact .inl rfl
    refine h h'.objs.size c' ((X.mg "__name__").getD .none) ctv _ _ I1 hG (Heap.get?_push_size _ rfl) ?_ (nofr _ hsz) upd_same
    have n1 : h'.objs.size ≠ c' := Nat.ne_of_gt hlt
    have n2 : h'.objs.size ≠ P := Nat.ne_of_gt (Nat.lt_of_lt_of_le (Heap.lt_size hP') hsz)
    rw [upd_ne n1, upd_ne n2]
    exact I.hok.fresh hsz
def tLam3 (P : Addr) (q : Str) (TT : (XK → Hp → VK → Prop) → Hp → VK → Prop) (t : XK → TE) : TE := fun σ H Q => TabS H P q ∧ ∀ H1, Grown P q H H1 → TT (fun E H' Q' => t E σ H' Q') H1 Q
theorem pe_lam3 {TT : (XK → Hp → VK → Prop) → Hp → VK → Prop} {x a : Str} {g c P : Addr} {k : Nat} {pg : Arguments} {bg : List Stmt} {sg : Scope} {dV kV doc pm cdv ct oc : Value} {an od : Option Addr} {osl : Array (Option Value)} {Ng : List Str}
    {params : Arguments} {body : Expr} {scope : Scope} {t : XK → TE} {p lpos pos : Pos} (hg : Gl X x) (hm : X.mg x = some (.ref g)) (hk : PySem.W.keepIn X.K (.ref g) = true)
    (lk : X.K.lookup g = some ⟨oc, od, .func (PySem.W.fnOf x x pg bg sg dV kV doc pm an cdv ct), osl⟩) (hcg : PySem.W.codeIn X.K cdv x = true) (hb : L2.Binds X.K (PySem.W.fnOf x x pg bg sg dV kV doc pm an cdv ct) [a] []) (Sg : FnScope Ng [a] sg) (hNg : Ng[0]? = some a) (hva : Vis sg a)
    (hG : GivesTo X Ng x sg g cdv bg a (X.env.qual ++ "<lambda>") TT)
    (TB : LamX.TabB X.base X.mg c P) (hcode : X.env.code = .ref c) (hr : Room (k + 2) X.A) (L : LamS X.env.scope scope) (hdef : defaultsOf params X.env = ([], []))
    (hbind : ∀ (q : Str) (cl : List (Str × Addr)) (pm cv ctv : Value), bindArgs (PySem.W.kla_fn "<lambda>" q params body scope cl pm cv ctv) ⟨[], []⟩ = pure [])
    (hbody : ∀ (A : Around) (outer : List Env) (s : Shared) (H : Hp) (E : XK) (f c' : Addr), Room k (A.deeper (lamEnv X scope s.heap.objs.size f c')) → PE (lamCx X A outer s H E scope f c') body (t E))
    (hdb : (x == ("__debug__" : Str)) = false := by decide) (hd : (a == ("__debug__" : Str)) = false := by decide) (hcd : (a == ("__classdict__" : Str)) = false := by decide) :
    PE X (.Call (.Name x p) [.Lambda params body scope lpos] [] pos) (tLam3 P (X.env.qual ++ "<lambda>") TT t) := by
  refine ⟨fun pins s σ H Q I h => ?_⟩
  obtain ⟨hT, h⟩ := h
  refine wpAny_Call_Name_kw (ld_glob I hg hm ?_ hdb)
  refine PySem.W.callWith_K (h₀ := X.base) I.ok.mod.kin hk ?_ (by rfl) (by rfl)
  show wpAny _ _ (spliced ((false, eval (.Lambda params body scope lpos) X.env) :: backTo pos (starEach [] X.env))) _ _ s
  refine Calls.spliced_cons (lam_make3 I TB hcode hT hdef (L.has I.ok) fun f c' pm' ctv H1 s' I1 gr hf hfn hfr hco => ?_)
  refine Calls.spliced_nil ⟨I1.kIn, ?_⟩
  refine wpAny_call (codeAny_mono (run_ofS (CX := C8.CX0) (E := C8.E0) (Q := Q) (outer := X.stack) (N := Ng) (us := [.ref f]) (vs := [.ref f]) lk hcg Sg hr I1.env0 (hb s' [.ref f] I1.kIn rfl) (.cons rfl .nil) rfl fun hr' => ?_) fun r s2 hq => ?_)
  · obtain ⟨t', ht', hq'⟩ := hG f c' s' H1 Q (fun E H' Q' => t E σ H' Q') (fun W pn xe E p1 p2 tk hW => pe_act (i := 0) I1 L hf hfn hfr (hbind _ _ _ _ _) tk hW hr' (fun A outer s H hr2 => hbody A outer s H E f c' hr2) hNg hva hd hcd) hco (h H1 gr)
    exact ⟨t', ht'.nox, hq'⟩
  · cases r with
    | error e => exact (show False from hq).elim
    | ok fl =>
      cases fl with
      | ret u => exact I1.after hq
      | next => exact False.elim hq
      | brk => exact False.elim hq
      | cont => exact False.elim hq
/-- try: call() / except BadArgument as e: return e.name / return '' -/
def TTref (CB : Addr) : (XK → Hp → VK → Prop) → Hp → VK → Prop := fun tl H Q =>
  tl (fun cls d H' => cls = .ref CB ∧ ∃ dd nm, d = some dd ∧ H' dd = some (.xd [(("name" : Str), V.str nm)]) ∧ Q (.str nm) H') H fun _ H' => Q (.str "") H'
abbrev zc (X : Cx) (x : Str) (sg : Scope) (g : Addr) (cdg : Value) (s : Shared) (H : Hp) : Cx := (cxOf C8.CX0 X.prog X.w X.K X.mg X.base ["call", "e"] x sg g cdg X.A X.stack s H C8.E0).nox
theorem refused_gives {x q : Str} {sg : Scope} {g CB fI : Addr} {cdg : Value} {j : Nat} {p1 p2 p3 p4 p5 p6 p7 p8 p9 p10 p11 : Pos} (T : BadTxt X.prog X.K X.mg CB fI) (hge : sg.names.lookup ("BadArgument" : Str) = some .globalImplicit) (hle : sg.names.lookup ("e" : Str) = some .local)
    (hs : ∀ env : Env, swapsWith (.Call (.Name "call" p1) [] [] p2) none p3.line env = pure false) (hbase : ∀ env : Env, env.scope = sg → attributeBase (.Name "e" p5) "name" env (eval (.Name "e" p5) env) = eval (.Name "e" p5) env) :
    GivesTo X ["call", "e"] x sg g cdg [.Try [.Expr (.Call (.Name "call" p1) [] [] p2) p3] [.ExceptHandler (some (.Name "BadArgument" p4)) (some "e") [.Return (some (.Attribute (.Name "e" p5) "name" p6)) p7] p8] [] [] p9, .Return (some (.Constant (.str "") j p10)) p11] "call" q (TTref CB) := by
  intro f c' s H Q tl act hc h
  have nd : (["call", "e"] : List Str).Nodup := by decide +kernel
  refine ⟨_, pss_cons (ps_try_as (X := zc X x sg g cdg s H) (c := .ref CB) (i := 1) (Wout := fun _ _ _ _ => False) (ts := fun a cls d D σ H => σ.length = 2 → tXf a cls d CB "name" (tVar 1) σ H D.rt)
      (tb := fun W D σ H => ∃ Ech : XK, (∀ cls d σ' H', Ech cls d H' → W cls d σ' H') ∧ σ[0]? = some (some (.ref f)) ∧ H c' = some (CodeO c' q) ∧ tl Ech H fun _ H1 => D.nx σ H1)
      rfl rfl nd rfl hle ⟨hge, by decide, .inl T.gC⟩ LamX.takes0 (fun W pn xe tk _ => ?_) (fun a oe cls d pn hz hf => ⟨fun pins' s' σ' H' D' I' h' => (pss_one (ps_ret (pe_xf (X := zc X x sg g cdg s H) T.xf T.noN hz hf (pe_var (i := 1) rfl (.inl hle)) (hbase _ rfl)))).run pins' s' σ' H' D' I' (h' I'.len)⟩)) (pss_one (ps_ret pe_str)), ?_⟩
  · refine ⟨fun pins s' σ H' D I h' => ?_⟩
    obtain ⟨Ech, hW, h1, h2, h3⟩ := h'
    exact (pss_one (ps_expr (act W pn xe Ech p1 p2 tk hW) (hs _))).run pins s' σ H' D I ⟨h1, h2, h3⟩
  · refine ⟨fun cls d H' => cls = .ref CB ∧ ∃ dd nm, d = some dd ∧ H' dd = some (.xd [(("name" : Str), V.str nm)]) ∧ Q (.str nm) H', fun cls d σ' H' ⟨ec, dd, nm, ed, hd, hq⟩ => ?_, rfl, hc, h⟩
    refine ⟨true, by rw [ec]; exact T.te, fun _ a ha hl => ?_, fun z => by cases z⟩
    have hl1 : 1 < σ'.length := by
      rw [List.length_set] at hl
      omega
    refine ⟨.ref a, List.getElem?_set_self hl1, rfl, ec, dd, _, .str nm, ed, hd, by simp [List.lookup], hq⟩
end
theorem stp_grown {T : List (Addr × Option Str)} {Mx : List Addr} {F H H1 : Hp} {P : Addr} {q : Str} (hF : Fz F H) (hT : Tb T H) (hq : ∀ o, (P, o) ∈ T → o = some q) (g : Grown P q H H1) : Stp T Mx F H F H1 := by
  obtain ⟨ps, hP, _⟩ := g.was
  have nP : ∀ b u, H b = some u → (∀ z, u ≠ .tbl z) → b ≠ P := fun b u e n z => by
    rw [z, hP] at e
    exact n ps (Option.some.inj e).symm
  have same : ∀ b u, b ≠ P → H b = some u → H1 b = some u := fun b u n e => by
    rcases g.rest b n with z | ⟨z, _⟩
    · rw [z]; exact e
    · rw [z] at e; cases e
  refine ⟨Sub.refl F, fun a o e => ?_, fun a o e _ n => same a o (nP a o e n) e, fun a e => ?_, fun a o e => .inl e, fun p hp => ?_⟩
  · obtain ⟨z1, z2⟩ := hF a o e
    exact ⟨same a o (nP a o z1 z2) z1, z2⟩
  · by_cases z : a = P
    · obtain ⟨ps1, h1, _⟩ := g.tab
      rw [z, h1] at e; cases e
    · rcases g.rest a z with w | ⟨w, _⟩
      · rw [← w]; exact e
      · exact w
  · have t := hT p hp
    by_cases z : p.1 = P
    · obtain ⟨p1, p2⟩ := p
      dsimp only at z
      subst z
      have e2 := hq p2 hp
      subst e2
      exact g.tab
    · obtain ⟨ps', hps⟩ := t.tbl
      exact t.ext ((same _ _ z hps).trans hps.symm) fun b o e n => same b o (nP b o e n) e
section
variable {X : Cx} {c : Cfg} {δ : List Sd} {e : En}
def nmR : Res → Str
  | .exc n => n
  | _ => ""
/-- _law_refused(lambda: f(a, ..)) -/
theorem ed_refused {x : Str} {st : Stmt} {cc P : Addr} {params : Arguments} {scope : Scope} {p lpos pos p1 cpos : Pos} {a : Expr} {es : List Expr} {k n : Nat} {ps : List Str} {R : List D → Res → Prop} {ds : List D} {r : Res} {CB fI : Addr} (hK : Fx e "_law_refused" st) (eK : X.K = e.K) (eP : X.prog = e.P) (eM : X.mg = e.mg) (B : BadTxt X.prog X.K X.mg CB fI)
    (hbd : ∀ (X : Cx) (g : Addr) (cdv : Value), BadTxt X.prog X.K X.mg CB fI → GivesTo X ["call", "e"] "_law_refused" (defScope st) g cdv (defBody st) "call" (X.env.qual ++ "<lambda>") (TTref CB)) (Sg : FnScope ["call", "e"] ["call"] (defScope st)) (hva : Vis (defScope st) "call")
    (hba : ∀ (kV doc pm : Value) (an : Option Addr) (cdv ct : Value) (us : List Value), us.length = ["call"].length → bindArgs (PySem.W.fnOf "_law_refused" "_law_refused" (defArgs st) (defBody st) (defScope st) .none kV doc pm an cdv ct) ⟨us, []⟩ = pure ((["call"] : List Str).zip us))
    (TB : GxR.TabB X.base X.mg cc P) (hcode : X.env.code = .ref cc) (hT : (P, some (X.env.qual ++ "<lambda>")) ∈ c.T) (hu : ∀ o, (P, o) ∈ c.T → o = some (X.env.qual ++ "<lambda>")) (hr : Room (k + 2) X.A) (hn : n ≤ k)
    (C : Cal X.prog X.w X.K X.mg X.base (L2.CX X.prog X.w) n x ps (spD c.T CB R)) (ha : ∀ A outer s H E f c', EA (lamCx X A outer s H E scope f c') c δ (a :: es) ds) (hR : R ds r) (hgx : ∀ A outer s H E f c', Gl (lamCx X A outer s H E scope f c') x) (L : LamS X.env.scope scope)
    (hg : Gl X "_law_refused" := by rfl) (hdef : defaultsOf params X.env = ([], []) := by rfl) (hbind : ∀ (q : Str) (cl : List (Str × Addr)) (pm cv ctv : Value), bindArgs (PySem.W.kla_fn "<lambda>" q params (.Call (.Name x p1) (a :: es) [] cpos) scope cl pm cv ctv) ⟨[], []⟩ = pure [] := by intros; rfl)
    (hdb : (x == ("__debug__" : Str)) = false := by decide) (he : ∀ A outer s H E f c', starEach (a :: es) (lamCx X A outer s H E scope f c').env = (false, eval a (lamCx X A outer s H E scope f c').env) :: starEach es (lamCx X A outer s H E scope f c').env := by intros; rfl) (hpl : ∀ A outer s H E f c', (backTo cpos (starEach es (lamCx X A outer s H E scope f c').env)).any (·.1) = false := by intros; rfl) :
    ED X c δ (.Call (.Name "_law_refused" p) [.Lambda params (.Call (.Name x p1) (a :: es) [] cpos) scope lpos] [] pos) (.str (nmR r)) := fun F H σ Q S q => by
  obtain ⟨g, fd, h1, h2, _⟩ := hK.ex
  have kp := h1.kp
  have bi := FunD.bindsN (ps := ["call"]) h1 hba
  obtain ⟨oc, od, dV, kV, doc, pm, an, cdv, ct, osl, rfl, lk, hcd, _, _⟩ := h1.ex
  rw [← eK] at lk hcd kp bi
  rw [← eM] at h2
  refine uE (pe_lam3 (t := fun E σ H Q => ∀ A outer s H0 f c', Room k (A.deeper (lamEnv X scope s.heap.objs.size f c')) → tE (lamCx X A outer s H0 E scope f c') (.Call (.Name x p1) (a :: es) [] cpos) σ H Q) hg h2 kp lk hcd bi Sg rfl hva (hbd X g cdv B)
    ⟨TB.code, TB.bm, TB.gP⟩ hcode hr L hdef hbind (fun A outer s H E f c' hr2 => ⟨fun pins s' σ' H' Q' I' h' => h' A outer s H f c' hr2 pins s' I'⟩)) ?_
  have was : TabS H P (X.env.qual ++ "<lambda>") := S.tb _ hT
  refine ⟨was, fun H1 gr A outer s H0 f c' hr2 => ?_⟩
  have sg : Stp c.T [] F H F H1 := stp_grown S.fz S.tb hu gr
  obtain ⟨f2, fd2, k1, k2, k3, k4⟩ := C.ex
  refine uE (pe_call (X := lamCx X A outer s H0 (fun cls d H' => cls = .ref CB ∧ ∃ dd nm, d = some dd ∧ H' dd = some (.xd [(("name" : Str), V.str nm)]) ∧ Q (.str nm) H') scope f c') (E := fun cls d H' => cls = .ref CB ∧ ∃ dd nm, d = some dd ∧ H' dd = some (.xd [(("name" : Str), V.str nm)]) ∧ Q (.str nm) H')
    k4 (hr2.mono hn) (hgx _ _ _ _ _ _ _) k1 k2 k3 .nil (passes_call (takes_of rfl rfl rfl rfl) fun _ _ _ _ z => z) (sA (a :: es)) hdb (he _ _ _ _ _ _ _) (hpl _ _ _ _ _ _ _)) ?_
  refine ha A outer s H0 _ f c' F H1 σ _ (S.step sg) fun vs F2 H2 s2 d2 => ?_
  rw [List.append_nil]
  refine ⟨F2, ds, r, s2.tb, s2.fz, d2, hR, fun v F3 H3 s3 p3 => ?_, fun nm er dd F3 H3 s3 hd => ⟨rfl, dd, nm, rfl, hd, ?_⟩⟩
  · have e0 : nmR r = "" := by
      cases r with
      | exc n => exact p3.elim
      | _ => rfl
    refine q _ F3 H3 ((sg.trans s2).trans s3) ?_
    rw [e0]
    exact .str _
  · subst er
    exact q _ F3 H3 ((sg.trans s2).trans s3) (.str _)
end
end Fs

set_option Elab.async false
set_option linter.all false
set_option maxRecDepth 100000
set_option maxHeartbeats 400000
/-! Firesseen: sorted lists of lots. -/
namespace Fs
section
open PySem PyProof.Rows
theorem perm_few : ∀ {vs : List Value} {ps : List (Value × Value)}, vs.length ≤ 1 → ps.Perm (vs.zip vs) → ps.map Prod.snd = vs
  | [], ps, _, a2 => by
    have e : ps = [] := List.perm_nil.mp a2
    rw [e]; rfl
  | [v], ps, _, a2 => by
    have e : ps = [(v, v)] := List.perm_singleton.mp a2
    rw [e]; rfl
  | _ :: _ :: _, _, h, _ => absurd h (by simp)
variable {prog : Program} {w : World} {A : Around} {E : Value → Shared → Prop} {s : Shared}
theorem sorted_few {l : Addr} {vs : List Value} {Q : Value → Shared → Prop} (hl : s.heap.IsList l vs.toArray) (h1 : vs.length ≤ 1)
    (h : ∀ out : Array Value, out.toList = vs → Q (.ref (s.heap.objs.size + 1)) { s with heap := sortedAll s.heap vs out }) : wpAny (model prog w) A (call (.builtin "sorted") [.ref l]) Q E s := by
  have z1 : vs.length ≤ sizeLine := by rw [sizeLine_eq]; omega
  refine Calls.call_function_entry kind_sorted plain_sorted entry_sorted (args_sorted1 _) ?_
  unfold Builtin.«sorted»
  refine wpAny_bind (m := checkCount "sorted" 1 1 _) (wpAny_pure ?_)
  refine wpAny_bind (collect_list hl ?_ z1)
  refine wpAny_bind (wpAny_newList ?_ z1)
  have hsz : ((s.heap.push (seqObj "list" #[] 0)).update s.heap.objs.size (Obj.mapSeq (· ++ vs.toArray))).objs.size = s.heap.objs.size + 1 := by rw [Heap.size_update, size_push']
  have hoL : (((s.heap.push (seqObj "list" #[] 0)).update s.heap.objs.size (Obj.mapSeq (· ++ vs.toArray))).push (seqObj "list" vs.toArray 0)).get? (s.heap.objs.size + 1) = some (seqObj "list" vs.toArray 0) := by
    rw [← hsz]
    exact Heap.get?_push_size _ rfl
  show wpAny _ _ _ _ _ { s with heap := ((s.heap.push (seqObj "list" #[] 0)).update s.heap.objs.size (Obj.mapSeq (· ++ vs.toArray))).push (seqObj "list" vs.toArray 0) }
  rw [hsz]
  refine wpAny_bind (wpAny_holding (wpAny_call_entry slot_list_sort ⟨_, hoL, rfl⟩ entry_list_sort (SK.plain_sort (r := fun _ => 0) hoL (by omega) (fun h2 => absurd h2 (by omega)) fun ps out a1 a2 _ => ⟨_, rfl, ?_⟩) (args_list_sort _)))
  exact wpAny_pure ⟨_, rfl, h out (a1.trans (perm_few h1 a2))⟩
end
end Fs
namespace Fs
open PySem PySem.Spec L2
def rSort1 (K : PySem.W.Frag) : List V → Hp → VK → Prop := fun vs H Q => ∃ (a : Addr) (xs : List V), vs = [V.ref a] ∧ SqL K H a xs ∧ xs.length ≤ 1 ∧ ∀ p, H p = none → Q (.ref p) (upd H p (.lst xs))
theorem cr_sort1 {X : Cx} : CallR X (.builtin "sorted") (rSort1 X.K) := by
  intro pins s σ H vs us Q I r h
  obtain ⟨a, xs, rfl, hs, h1, q⟩ := h
  obtain ⟨its, rv, hl, hz⟩ := I.list hs
  rw [Vals.ref1 r]
  refine sorted_few hl.isList (by rw [← rv.length]; exact h1) fun out e => ?_
  obtain ⟨ep, he'⟩ := PyProof.Rows.sortedAll_at s.heap its out
  exact ⟨.ref _, upd H (s.heap.objs.size + 1) (.lst xs), I.laid (t' := s.toks) (fun _ _ => PyProof.Rows.sortedAll_old) (Nat.le_succ _) ⟨hz, out.toList, ep, by rw [e]; exact rv, he'⟩, rfl, q _ (I.hok.fresh (Nat.le_succ _))⟩
end Fs

set_option Elab.async false
set_option linter.all false
set_option maxRecDepth 100000
set_option maxHeartbeats 400000
/-! Firesseen: sorted, as rules. -/
namespace Fs
open PySem PySem.Spec L2
def tupD (ns : List Int) : D := .tuple (ns.map .int)
theorem perm_back {F : Hp} : ∀ {ys xs : List V}, ys.Perm xs → ∀ {nss : List (List Int)}, DvAll F xs (nss.map tupD) → ∃ mss : List (List Int), DvAll F ys (mss.map tupD) ∧ mss.Perm nss := by
  intro ys xs h
  induction h with
  | nil =>
    intro nss k
    cases nss with
    | nil => exact ⟨[], .nil, .nil⟩
    | cons a r => cases k
  | cons x _ ih =>
    intro nss k
    cases nss with
    | nil => cases k
    | cons a r =>
      cases k with
      | cons k1 k2 =>
        obtain ⟨m, h1, h2⟩ := ih k2
        exact ⟨a :: m, .cons k1 h1, h2.cons a⟩
  | swap x y l =>
    intro nss k
    match nss, k with
    | a :: b :: r, .cons k1 (.cons k2 k3) => exact ⟨b :: a :: r, .cons k2 (.cons k1 k3), .swap a b r⟩
  | trans _ _ ih1 ih2 =>
    intro nss k
    obtain ⟨m1, h1, h2⟩ := ih2 k
    obtain ⟨m2, h3, h4⟩ := ih1 h1
    exact ⟨m2, h3, h4.trans h2⟩
theorem tupI_of {K : PySem.W.Frag} {F H : Hp} {v : V} {ns : List Int} (s : Sub F H) (h : Dv F v (tupD ns)) : TupI K H v ns := by
  obtain ⟨a, vs, rfl, e, k⟩ := dv_tup h
  rw [dvAll_ints k] at e
  exact ⟨a, rfl, .inl (rd_sub s e)⟩
theorem codes_back {K : PySem.W.Frag} {F H : Hp} {B : Int} (s : Sub F H) : ∀ {ys : List V} {mss : List (List Int)}, DvAll F ys (mss.map tupD) → ys.Pairwise (fun x y => ∀ n m, TupI K H x n → TupI K H y m → TS.code B n ≤ TS.code B m) → mss.Pairwise (fun n m => TS.code B n ≤ TS.code B m)
  | _, [], _, _ => .nil
  | _, a :: r, .cons k1 k2, p => by
    obtain ⟨p1, p2⟩ := List.pairwise_cons.mp p
    refine List.pairwise_cons.mpr ⟨fun b hb => ?_, codes_back s k2 p2⟩
    obtain ⟨i, hi, e⟩ := List.getElem_of_mem hb
    obtain ⟨v, h1, h2⟩ := dvAll_get k2 (i := i) (d := tupD b) (by rw [List.getElem?_map, List.getElem?_eq_getElem hi, e]; rfl)
    exact p1 v (List.mem_of_getElem? h1) _ _ (tupI_of s k1) (tupI_of s h2)
section
variable {X : Cx} {c : Cfg} {δ : List Sd} {e : Expr} {p pos : Pos}
/-- sorted(..) of at most one thing -/
theorem el_sort1 {ds : List D} (ha : ER X c δ e ds) (h1 : ds.length ≤ 1) (hm : X.mg "sorted" = none) (hg : Gl X "sorted" := by rfl) (he : starEach (e :: []) X.env = (false, eval e X.env) :: starEach [] X.env := by rfl) (hpl : (backTo pos (starEach [] X.env)).any (·.1) = false := by rfl) :
    EL X c δ (.Call (.Name "sorted" p) [e] [] pos) ds := fun F H σ Q S q => by
  refine uE (pe_callB cr_sort1 hg hm (by decide +kernel) (pa_cons (sE e) pa_nil he) (by decide) (by decide) he hpl) ?_
  refine ha F H σ _ S fun r vs F1 H1 s1 e1 k1 => ?_
  exact ⟨r, vs, rfl, SqL.of e1, by rw [dvAll_len k1]; exact h1, fun l hl => q l vs F1 _ (s1.trans (Stp.newO s1.fz s1.tb hl)) (s1.dom l hl) (fresh_F s1 hl) upd_same k1⟩
/-- sorted(..) of some tuples of d numbers in [0, B) -/
theorem el_sortT (d : Nat) (B : Int) {nss mss : List (List Int)} (ha : ER X c δ e (nss.map tupD)) (hd : 1 ≤ d) (h64 : nss.length < 64) (hok : ∀ ns ∈ nss, ns.length = d ∧ TS.Bd B ns) (hp : mss.Perm nss) (hs : mss.Pairwise (fun n m => TS.code B n ≤ TS.code B m)) (hi : ∀ a ∈ mss, ∀ b ∈ mss, TS.code B a = TS.code B b → a = b)
    (hm : X.mg "sorted" = none) (hg : Gl X "sorted" := by rfl) (he : starEach (e :: []) X.env = (false, eval e X.env) :: starEach [] X.env := by rfl) (hpl : (backTo pos (starEach [] X.env)).any (·.1) = false := by rfl) :
    EL X c δ (.Call (.Name "sorted" p) [e] [] pos) (mss.map tupD) := fun F H σ Q S q => by
  refine uE (pe_callB (cr_sortT (d := d) (B := B) hd) hg hm (by decide +kernel) (pa_cons (sE e) pa_nil he) (by decide) (by decide) he hpl) ?_
  refine ha F H σ _ S fun r vs F1 H1 s1 e1 k1 => ?_
  have sb := fz_sub s1.fz
  refine ⟨r, vs, rfl, SqL.of e1, by rw [dvAll_len k1, List.length_map]; exact h64, fun x hx => ?_, fun ys l hy hc hl => ?_⟩
  · obtain ⟨i, hi, ei⟩ := List.getElem_of_mem hx
    obtain ⟨dd, g1, g2⟩ := dvAll_getV k1 (i := i) (v := x) (by rw [List.getElem?_eq_getElem hi, ei])
    rw [List.getElem?_map] at g1
    cases g : nss[i]? with
    | none => rw [g] at g1; cases g1
    | some ns =>
      rw [g] at g1
      cases g1
      obtain ⟨h3, h4⟩ := hok ns (List.mem_of_getElem? g)
      exact ⟨ns, tupI_of sb g2, h3, h4⟩
  · obtain ⟨zs, z1, z2⟩ := perm_back hy k1
    have z3 := codes_back sb z1 hc
    have z4 : zs = mss := by
      refine List.Perm.eq_of_pairwise (le := fun n m => TS.code B n ≤ TS.code B m) (fun a b ha hb h1 h2 => ?_) z3 hs (z2.trans hp.symm)
      exact hi a ((z2.trans hp.symm).mem_iff.mp ha) b hb (by omega)
    subst z4
    exact q l ys F1 _ (s1.trans (Stp.newO s1.fz s1.tb hl)) (s1.dom l hl) (fresh_F s1 hl) upd_same z1
end
end Fs

set_option Elab.async false
set_option linter.all false
set_option maxRecDepth 100000
set_option maxHeartbeats 400000
/-! Firesseen: in over lists of tuples; ==; a tuple many times. -/
namespace Fs
open PySem PySem.Spec L2
/-- plain data, no more than n deep -/
def Shp (n : Nat) (d : D) : Prop := d.canLay0 = true ∧ d.depth ≤ n
theorem shpAll {n : Nat} : ∀ {ds : List D}, (∀ d ∈ ds, Shp n d) → PyData.canLayAll0 ds = true ∧ PyData.depthAll ds ≤ n
  | [], _ => ⟨rfl, Nat.zero_le _⟩
  | d :: ds, h => by
    obtain ⟨h1, h2⟩ := h d List.mem_cons_self
    obtain ⟨h3, h4⟩ := shpAll fun x hx => h x (List.mem_cons_of_mem _ hx)
    exact ⟨by rw [PyData.canLayAll0, h1, h3]; rfl, by rw [PyData.depthAll]; omega⟩
theorem Shp.tup {n : Nat} {ds : List D} (h : ∀ d ∈ ds, Shp n d) : Shp (n + 1) (.tuple ds) := by
  obtain ⟨h1, h2⟩ := shpAll h
  exact ⟨by rw [PyData.canLay0, h1], by rw [PyData.depth]; omega⟩
theorem Shp.lst {n : Nat} {ds : List D} (h : ∀ d ∈ ds, Shp n d) : Shp (n + 1) (.list ds) := by
  obtain ⟨h1, h2⟩ := shpAll h
  exact ⟨by rw [PyData.canLay0, h1], by rw [PyData.depth]; omega⟩
theorem Shp.le {n m : Nat} {d : D} (h : Shp n d) (hm : n ≤ m) : Shp m d := ⟨h.1, Nat.le_trans h.2 hm⟩
theorem Shp.shaped {n : Nat} {d : D} (h : Shp n d) (hn : n ≤ 64 := by decide) : SeqAt.shaped d = true := by
  unfold SeqAt.shaped
  rw [h.1, decide_eq_true (Nat.le_trans h.2 hn)]
  rfl
theorem shp_int (i : Int) : Shp 0 (.int i) := ⟨by rw [PyData.canLay0], by rw [PyData.depth]; exact Nat.le_refl _⟩
theorem shp_bool (b : Bool) : Shp 0 (.bool b) := ⟨by rw [PyData.canLay0], by rw [PyData.depth]; exact Nat.le_refl _⟩
theorem shp_none : Shp 0 .none := ⟨by rw [PyData.canLay0], by rw [PyData.depth]; exact Nat.le_refl _⟩
theorem eqv_self {n : Nat} {d : D} (h : Shp n d) : PyData.eqv d d = true := PySem.SeqAt.eqv_refl d h.1
section
variable {X : Cx} {c : Cfg} {δ : List Sd} {a b : Expr} {p pos : Pos}
theorem ec_inK {d : D} {ds : List D} (hu : X.A.units + 65 < cLine) (ha : ED X c δ a d) (hb : ED X c δ b (.list ds)) (h1 : SeqAt.shaped d = true) (h2 : SeqAt.shaped (.list ds) = true) (hm : behindInMarks .In b = false := by rfl) : EC X c δ a .In b (ds.any fun z => PyData.eqv z d) :=
  ⟨_, op_inD hu, hm, fun F H σ Q S q => by
    refine ha F H σ _ S fun v F1 H1 s1 d1 => ?_
    refine hb F1 H1 σ _ (S.step s1) fun v2 F2 H2 s2 d2 => ?_
    exact ⟨d, ds, dv_dp (fz_sub s2.fz) (s2.dv d1), dv_dp (fz_sub s2.fz) d2, h1, h2, _, rfl, q F2 H2 (s1.trans s2)⟩⟩
theorem ec_notInK {d : D} {ds : List D} (hu : X.A.units + 65 < cLine) (ha : ED X c δ a d) (hb : ED X c δ b (.list ds)) (h1 : SeqAt.shaped d = true) (h2 : SeqAt.shaped (.list ds) = true) (hm : behindInMarks .NotIn b = false := by rfl) : EC X c δ a .NotIn b (!ds.any fun z => PyData.eqv z d) :=
  ⟨_, op_notInD hu, hm, fun F H σ Q S q => by
    refine ha F H σ _ S fun v F1 H1 s1 d1 => ?_
    refine hb F1 H1 σ _ (S.step s1) fun v2 F2 H2 s2 d2 => ?_
    exact ⟨d, ds, dv_dp (fz_sub s2.fz) (s2.dv d1), dv_dp (fz_sub s2.fz) d2, h1, h2, _, rfl, q F2 H2 (s1.trans s2)⟩⟩
/-- tuple * number -/
theorem dvAll_rep {F : Hp} {vs : List V} {ds : List D} (h : DvAll F vs ds) : ∀ n : Nat, DvAll F (List.replicate n vs).flatten (List.replicate n ds).flatten
  | 0 => .nil
  | n + 1 => by
    rw [List.replicate_succ, List.replicate_succ, List.flatten_cons, List.flatten_cons]
    exact dvAll_app h (dvAll_rep h n)
theorem ed_repT {ds : List D} {k : Int} (ha : ED X c δ a (.tuple ds)) (hb : ED X c δ b (.int k)) (hne : ds ≠ []) (h1 : 2 ≤ k) (h2 : k ≤ 1000) (hz : ds.length ≤ 1000) : ED X c δ (.BinOp a .Mult b p) (.tuple (List.replicate k.toNat ds).flatten) := fun F H σ Q S q => by
  refine uE (pe_op op_repT (sE a) (sE b)) ?_
  refine ha F H σ _ S fun v F1 H1 s1 d1 => ?_
  refine hb F1 H1 σ _ (S.step s1) fun v2 F2 H2 s2 d2 => ?_
  have s := s1.trans s2
  obtain ⟨r1, vs1, rfl, e1, k1⟩ := dv_tup (s2.dv d1)
  have l1 := dvAll_len k1
  refine ⟨r1, k, vs1, rfl, dv_int d2, .inl (rd_sub (fz_sub s.fz) e1), fun z => hne (by rw [z] at l1; exact List.length_eq_zero_iff.mp l1.symm), h1, h2, by rw [l1]; exact hz, fun r hr => ?_⟩
  exact q _ _ _ (s.trans (Stp.newF s.fz s.tb hr (fun _ z => by cases z))) (.tup (.inl upd_same) (dvAll_sub (Sub.new (fresh_F s hr)) (dvAll_rep k1 _)))
end
end Fs
namespace Fs
open PySem PySem.Spec L2
theorem room_u64 {k : Nat} {A : Around} (r : Room k A) : A.units + 64 < cLine := by have := r.un; omega
theorem room_u65 {k : Nat} {A : Around} (r : Room k A) : A.units + 65 < cLine := by have := r.un; omega
end Fs

set_option Elab.async false
set_option linter.all false
set_option maxRecDepth 100000
set_option maxHeartbeats 4000000
/-! Firesseen: a comprehension with dice on its line; a list frozen beside dice. -/
namespace Fs
open PySem PySem.Spec L2
section
variable {X : Cx} {c : Cfg} {δ δ' δ2 : List Sd} {e a b tg iter elt : Expr} {es ifs : List Expr} {pos p p2 : Pos} {d : D} {ds xs : List D} {i j : Int} {k l : Bool} {x y : Str} {n m : Nat} {ps : List Str} {r : Res} {Dn : Ends} {st : Stmt} {body rest : List Stmt} {ad : Addr} {K : D → List Sd → Prop} {KA : List D → List Sd → Prop} {KT : Bool → List Sd → Prop}
theorem mlc_read {scope : Scope} {own : List (Str × Nat)} (hMx : ∀ q ∈ c.Mx, c.H0 q ≠ none) (J : Nat → List D → List Sd → Prop)
    (hi : EIM X c δ tg iter fun ds δ0 => ds.length ≤ sizeLine ∧ wipeD δ0 (own.map (·.2)) = δ0 ∧ J 0 [] δ0 ∧ (∀ i acc δi, J i acc δi → acc.length ≤ i ∧ Ow δi δ0) ∧ (∀ acc δi, J ds.length acc δi → KA acc δi) ∧
      ∀ i x acc δi, ds[i]? = some x → J i acc δi → ∃ δx, (∀ s H C cl fp, EG (Blk X scope s H C cl fp) c δi tg x (own.map (·.2)) δx) ∧ ∀ s H C cl fp, EPsM (Blk X scope s H C cl fp) c δx ifs fun b δ1 =>
        (b = true → ∀ s H C cl fp, EM (Blk X scope s H C cl fp) c δ1 elt fun d δ2 => J (i + 1) (acc ++ [d]) (wipeD δ2 (own.map (·.2)))) ∧ (b = false → J (i + 1) acc (wipeD δ1 (own.map (·.2)))))
    {F H : Hp} {σ : L2.St} {Q : VK} (S : Sta c F H σ δ)
    (q : ∀ ds δ' p vs F' H', KA ds δ' → Sta c F' H' σ δ' → Stp c.T c.Mx F H F' H' → (∀ (j : Nat) (y : Sd), δ'[j]? = some y → y.own = true → σ[j]? ≠ some (some (V.ref p))) → c.H0 p = none → F' p = none → H' p = some (.lst vs) → DvAll F' vs ds → Q (.ref p) H') :
    tLc (tI X tg iter) (bG X scope tg) (bP X scope ifs) (bE X scope elt) (own.map (·.2)) σ H Q := by
  refine hi F H σ _ S fun ds δ0 It F1 H1 ⟨hz, hw0, j0, jl, jend, step⟩ S1 s1 w1 => ?_
  generalize hvs : own.map (·.2) = vs at *
  intro Dn hD
  have hDF := fresh_F S1.base hD
  have h00 : c.H0 Dn = none := S1.base.dom Dn hD
  have Dno : Dn ∉ c.Mx := fun z => hMx Dn z h00
  have sD : Stp c.T [] F1 H1 F1 (upd H1 Dn (.lst [])) := Stp.newO S1.fz S1.tb hD
  have nsl : ∀ {δi : List Sd}, Ow δi δ0 → ∀ (j : Nat) (y : Sd), δi[j]? = some y → y.own = true → σ[j]? ≠ some (some (V.ref Dn)) := fun ow j y e o => by
    obtain ⟨y', e', o'⟩ := ow.get j y e o
    exact S1.fresh hD j y' e' o'
  have wsl : ∀ j : Nat, σ[j]? ≠ some (some (V.ref Dn)) → (L2.wipe σ vs)[j]? ≠ some (some (V.ref Dn)) := fun j h z => by
    obtain ⟨z1, _⟩ := wipe_some z
    exact h z1
  refine ⟨fun i m H' => m = ds.length - i ∧ i ≤ ds.length ∧ ∃ F' acc us δi δw, J i acc δi ∧ δi = wipeD δw vs ∧ Sta c F' H' (L2.wipe σ vs) δi ∧ Stp c.T c.Mx F1 H1 F' H' ∧ F' Dn = none ∧ H' Dn = some (.lst us) ∧ DvAll F' us acc,
    ⟨ds.length, by simp, Nat.zero_le _, F1, [], [], δ0, δ0, j0, hw0.symm, ?_, sD.wide, hDF, upd_same, .nil⟩, ?_⟩
  · have := (S1.step sD).wipe vs
    rw [hw0] at this
    exact this
  rintro i m H2 ⟨rfl, hi2, F2, acc, us, δi, δw, hJ, hδw, S2, s2, f2, e2, k2⟩
  obtain ⟨wg, ws⟩ := w1 F2 H2 s2.sub s2.fz s2.tb i
  by_cases hlt : i < ds.length
  · refine .inr ?_
    have hx : ds[i]? = some ds[i] := List.getElem?_eq_getElem hlt
    obtain ⟨go, wy⟩ := wg _ hx
    obtain ⟨jle, jow⟩ := jl i acc δi hJ
    refine ⟨go, fun H' => ∃ F' acc' us' δi' δw', J (i + 1) acc' δi' ∧ δi' = wipeD δw' vs ∧ Sta c F' H' (L2.wipe σ vs) δi' ∧ Stp c.T c.Mx F1 H1 F' H' ∧ F' Dn = none ∧ H' Dn = some (.lst us') ∧ DvAll F' us' acc', fun H' hN' => ⟨ds.length - (i + 1), by omega, rfl, hlt, hN'⟩, fun v H3 hy => ?_⟩
    obtain ⟨F3, s3, d3⟩ := wy v H3 hy
    obtain ⟨δx, hg, ht⟩ := step i _ acc δi hx hJ
    intro s' Hs C cl fp
    refine hg s' Hs C cl fp F3 H3 _ v _ (S2.step s3) d3 fun σ4 S4 l4 k4 => ?_
    have hw4 : L2.wipe σ4 vs = L2.wipe σ vs := wipe_eq (l4.trans (wipe_length σ vs)) k4
    refine ⟨hw4, ?_⟩
    intro s'' Hs2 C2 cl2 fp2
    refine ht s'' Hs2 C2 cl2 fp2 F3 H3 σ4 _ S4 fun b δ1 F5 H5 ⟨kt, kf⟩ S5 s5 => ?_
    have e3 := s3.ext _ _ e2 (by simp) (fun _ z => by cases z)
    have e5 : H5 Dn = some (.lst us) := s5.ext _ _ e3 Dno (fun _ z => by cases z)
    have f5 : F5 Dn = none := s5.free (s3.free f2 e2) e3
    have s15 := (s2.trans s3.wide).trans s5
    have k5 := s5.dvs (s3.dvs k2)
    cases b with
    | false =>
      refine iteF ⟨F5, acc, us, _, δ1, kf rfl, rfl, ?_, s15, f5, e5, k5⟩
      rw [← hw4]
      exact S5.wipe vs
    | true =>
      refine iteT ?_
      intro s3' Hs3 C3 cl3 fp3
      refine kt rfl s3' Hs3 C3 cl3 fp3 F5 H5 σ4 _ S5 fun d δ2 u F6 H6 hJ6 S6 s6 d6 => ?_
      have e6 : H6 Dn = some (.lst us) := s6.ext _ _ e5 Dno (fun _ z => by cases z)
      have f6 : F6 Dn = none := s6.free f5 e5
      have s16 := s15.trans s6
      have hul := dvAll_len k2
      obtain ⟨_, ow6⟩ := jl _ _ _ hJ6
      refine ⟨us, e6, by omega, F6, acc ++ [d], us ++ [u], _, δ2, hJ6, rfl, ?_, ⟨s16.sub, fz_upd s16.fz f6, fun x o z n m => ?_, fun x z => ?_, s16.new, tb_upd s16.tb (fun ps z => by rw [e6] at z; cases z) (.inr fun d' q' z => by rw [e6] at z; unfold LamX.CodeO at z; cases z)⟩, f6, upd_same, dvAll_app (s6.dvs k5) (.cons d6 .nil)⟩
      · rw [← hw4]
        refine (S6.wipe vs).written f6 h00 e6 fun j y ey oy => ?_
        rw [hw4]
        exact wsl j (nsl ow6 j y ey oy)
      · rw [upd_ne (ne_of_none z hD)]
        exact s16.ext x o z n m
      · by_cases hx2 : x = Dn
        · rw [hx2, upd_same] at z; cases z
        · rw [upd_ne hx2] at z; exact s16.dom x z
  · have : i = ds.length := by omega
    subst this
    subst hδw
    obtain ⟨_, ow⟩ := jl _ _ _ hJ
    exact .inl ⟨ws (Nat.le_refl _), q acc _ Dn us F2 H2 (jend _ _ hJ) S2.unwipe (s1.trans s2) (nsl ow) h00 f2 e2 k2⟩
/-- name = [.. for ..] with dice, on its line -/
theorem w_setMLc (m : Nat) {p' : Pos} {scope : Scope} {own : List (Str × Nat)} {spos : Pos} (ok : BlkOk X.N X.env.scope scope own) (hN : X.N.Nodup) (hc : X.calm = true) (hMx : ∀ q ∈ c.Mx, c.H0 q ≠ none) (J : Nat → List D → List Sd → Prop)
    (hi : EIM X c δ tg iter fun ds δ0 => ds.length ≤ sizeLine ∧ wipeD δ0 (own.map (·.2)) = δ0 ∧ J 0 [] δ0 ∧ (∀ i acc δi, J i acc δi → acc.length ≤ i ∧ Ow δi δ0) ∧ (∀ acc δi, J ds.length acc δi → Nx c (δi.set m (.l acc)) Dn.nx) ∧
      ∀ i x acc δi, ds[i]? = some x → J i acc δi → ∃ δx, (∀ s H C cl fp, EG (Blk X scope s H C cl fp) c δi tg x (own.map (·.2)) δx) ∧ ∀ s H C cl fp, EPsM (Blk X scope s H C cl fp) c δx ifs fun b δ1 =>
        (b = true → ∀ s H C cl fp, EM (Blk X scope s H C cl fp) c δ1 elt fun d δ2 => J (i + 1) (acc ++ [d]) (wipeD δ2 (own.map (·.2)))) ∧ (b = false → J (i + 1) acc (wipeD δ1 (own.map (·.2)))))
    (hy : X.N[m]? = some x := by rfl) (hyl : X.env.scope.names.lookup x = some .local := by rfl) (hsw : swapsWith (.ListComp elt [⟨tg, iter, ifs, 0⟩] scope pos) (some (.Name x p')) spos.line X.env = pure true := by exact sw_true rfl rfl rfl (by decide +kernel))
    (hs : ∀ x, foldedSetIterable iter X.env x = pure x := by intro _; rfl) : W1 X c δ (.Assign [.Name x p'] (.ListComp elt [⟨tg, iter, ifs, 0⟩] scope pos) spos) Dn := fun F H σ S => by
  refine uS (ps_setLc hc hN hy hyl hsw (sI tg iter) ok sbG sbP sbE hs) ?_
  refine mlc_read (KA := fun acc δi => Nx c (δi.set m (.l acc)) Dn.nx) hMx J hi S fun ds δ1 p vs F1 H1 hK S1 s1 ns h0 f1 e1 k1 => hK F1 H1 _ (S1.setO m f1 h0 rfl ⟨vs, e1, k1⟩ fun j y hj ey oy => ns j y ey oy)
end
section
variable {X : Cx} {c : Cfg} {δ δ' δ2 : List Sd} {e a b tg iter elt : Expr} {es ifs : List Expr} {pos p : Pos} {d : D} {ds : List D} {i j : Int} {k l : Bool} {is js : List Nat} {x : Str} {n : Nat} {ps ks : List Str} {CB : Addr} {R : List D → Res → Prop}
variable {Dn : Ends} {st : Stmt} {rest body orelse : List Stmt}
theorem ws_freezeM (m m0 : Nat) {ad : Addr} {xs0 : List D} (hδ : δ[m]? = some (.l ds)) (hM : c.Mx = [ad]) (h0m : δ[m0]? = some (.m ad xs0)) (hne : m ≠ m0) (h : WS X c (δ.set m (.d (.list ds))) rest Dn) : WS X c δ rest Dn := fun F H σ S => by
  obtain ⟨r, vs, e1, e2, e3, e4, e5⟩ := S.lst hδ
  have hsub : Sub F (upd F r (.lst vs)) := Sub.new e2
  have h0 : c.H0 r = none := by
    rcases e3 with z | z
    · exact z
    · rw [hM] at z
      obtain ⟨_, z1, _⟩ := S.lm h0m
      rw [← List.mem_singleton.mp z] at z1
      exact absurd z1 (S.sl.sep m m0 _ _ r hne hδ h0m rfl rfl e1)
  have hml : m < δ.length := (List.getElem?_eq_some_iff.mp hδ).1
  refine h (upd F r (.lst vs)) H σ ⟨⟨S.base.sub.trans hsub, fun a o z => ?_, S.base.ext, S.base.dom, fun a o z => ?_, S.base.tb⟩, S.pin.trans hsub, by rw [List.length_set]; exact S.sl.len, fun i y ey => ?_, fun i j x y q hij e1' e2' o1 o2 s1 => ?_⟩
  · by_cases ha : a = r
    · subst ha
      rw [upd_same] at z
      cases z
      exact ⟨e4, fun _ z => by cases z⟩
    · rw [upd_ne ha] at z
      exact S.fz a o z
  · by_cases ha : a = r
    · exact .inr (by rw [ha]; exact h0)
    · rw [upd_ne ha] at z
      exact S.base.new a o z
  · by_cases hi : m = i
    · subst hi
      rw [List.getElem?_set_self hml] at ey
      cases ey
      exact ⟨_, e1, .lst upd_same (dvAll_sub hsub e5)⟩
    · rw [List.getElem?_set_ne hi] at ey
      have old := S.sl.ok i y ey
      have oth : ∀ q, σ[i]? = some (some (.ref q)) → y.own = true → q ≠ r := fun q z o w => by
        rw [w] at z
        exact S.sl.sep m i _ y r hi hδ ey rfl o e1 z
      cases y with
      | un => trivial
      | d x => obtain ⟨v, a1, a2⟩ := old; exact ⟨v, a1, dv_sub hsub a2⟩
      | v x => exact old
      | l xs =>
        obtain ⟨q, a1, a2, a3, us, a4, a5⟩ := old
        exact ⟨q, a1, by rw [upd_ne (oth q a1 rfl)]; exact a2, a3, us, a4, dvAll_sub hsub a5⟩
      | k xs =>
        obtain ⟨q, a1, a2, a3, us, a4, a5⟩ := old
        exact ⟨q, a1, by rw [upd_ne (oth q a1 rfl)]; exact a2, a3, us, a4, paired_map (fun _ _ z => ⟨z.1, dv_sub hsub z.2⟩) a5⟩
      | t xs =>
        obtain ⟨q, a1, a2, a3, us, a4, a5⟩ := old
        exact ⟨q, a1, by rw [upd_ne (oth q a1 rfl)]; exact a2, a3, us, a4, paired_map (fun _ _ z => ⟨z.1, dv_sub hsub z.2⟩) a5⟩
      | m a0 xs =>
        obtain ⟨q, a1, a2, a3, e0, us, a4, a5⟩ := old
        exact ⟨q, a1, by rw [upd_ne (oth q a1 rfl)]; exact a2, a3, e0, us, a4, dvAll_sub hsub a5⟩
      | z xs =>
        obtain ⟨v, a1, a2⟩ := old
        exact ⟨v, a1, a2.sub hsub⟩
      | mt a0 xs =>
        obtain ⟨q, a1, a2, a3, e0, us, a4, a5⟩ := old
        exact ⟨q, a1, by rw [upd_ne (oth q a1 rfl)]; exact a2, a3, e0, us, a4, paired_map (fun _ _ z => ⟨z.1, dv_sub hsub z.2⟩) a5⟩
  · have old : ∀ (i : Nat) (x : Sd), (δ.set m (.d (.list ds)))[i]? = some x → x.own = true → δ[i]? = some x := fun i x e o => by
      by_cases hi : m = i
      · subst hi
        rw [List.getElem?_set_self hml] at e
        cases e
        cases o
      · rw [List.getElem?_set_ne hi] at e
        exact e
    exact S.sl.sep i j x y q hij (old i x e1' o1) (old j y e2' o2) o1 o2 s1
end
end Fs

set_option Elab.async false
set_option linter.all false
set_option maxRecDepth 100000
set_option maxHeartbeats 4000000
/-! Firesseen: tuples compared; max, sum, index of tuples; lists made by *; sorted numbers. -/
namespace Fs
open PySem PySem.Spec L2 PyProof.Rows
/-! ### the walks over a tuple of numbers -/
section
variable {prog : Program} {w : World} {A : Around} {E : Value → Shared → Prop} {s : Shared} {l : Addr} {its : List Value} {ns : List Int} {Q : Value → Shared → Prop}
theorem iter_intTup {xs : Array (Int × Tok)} {Q : Value → Shared → Prop} (hl : s.heap.IsTuple l (intItems xs))
    (h : ∀ s₂ : Shared, s₂ = { s with heap := s.heap.push { cls := .type "tuple_iterator", data := .fields #[.ref l, .int 0 0] } } →
      (s₂.heap.IsTupleIter s.heap.objs.size l 0 ∧ s₂.heap.IsTuple l (intItems xs)) → (∀ b ∈ [s.heap.objs.size, l], b < s₂.heap.objs.size) → l ≠ s.heap.objs.size → Q (.ref s.heap.objs.size) s₂) :
    wpAny (model prog w) A (pyIter (.ref l)) Q E s := by
  have hlt : l < s.heap.objs.size := by obtain ⟨_, e, _⟩ := hl; exact Heap.lt_size e
  refine wpAny_pyIter_tuple hl (h _ rfl ⟨⟨_, Heap.get?_push_size _ rfl, rfl, rfl⟩, hl.push _⟩ (fun b hb => ?_) (Nat.ne_of_lt hlt))
  show b < (s.heap.push _).objs.size
  rw [Heap.size_push]
  rcases List.mem_cons.mp hb with hb | hb
  · rw [hb]; exact Nat.lt_succ_self _
  · rw [List.mem_singleton.mp hb]; exact Nat.lt_succ_of_lt hlt
theorem old_keptT {h' : Heap} (hk : ∀ b o, b ∉ [s.heap.objs.size] → (s.heap.push { cls := .type "tuple_iterator", data := .fields #[.ref l, .int 0 0] }).get? b = some o → h'.get? b = some o) :
    ∀ b o, s.heap.get? b = some o → h'.get? b = some o := fun b o e => by
  refine hk b o (fun hm => ?_) (Heap.get?_push_of_some _ e)
  have lt := Heap.lt_size e
  rw [List.mem_singleton.mp hm] at lt
  exact absurd lt (Nat.lt_irrefl _)
theorem max_tup (hh : A.handled = none) (hl : s.heap.IsTuple l its.toArray) (hi : IntsAre its ns) (hne : 0 < ns.length)
    (h : ∀ h' tk M t', (∀ b o, s.heap.get? b = some o → h'.get? b = some o) → M ∈ ns → (∀ a, a ∈ ns → a ≤ M) → Q (.int M t') { s with heap := h', toks := tk }) : wpAny (model prog w) A (call (.builtin "max") [.ref l]) Q E s := by
  obtain ⟨xs, e⟩ := hi.allInts.items
  have hn : numsOf (intItems xs).toList = ns := by rw [← e]; exact hi.numsOf
  rw [nums_intItems] at hn
  subst hn
  rw [e] at hl
  have hsz : 0 < xs.size := by simpa using hne
  refine call_max_walk (iter_intTup hl fun s₂ e2 st hfp hlI => ?_)
  subst e2
  refine ⟨_, _, _, _, _, _, _, rfl, Walks.tuple (A := A.in1) hh _ l hlI (intItems xs), st, hfp, by simpa [intItems] using hsz, CmpOf.ints_gt (numAt xs) (fun _ _ => intItems_at), fun v h' tk hP hk => ?_⟩
  obtain ⟨t, rfl⟩ := intItems_at hP
  have en : (intItems xs).size - 1 = xs.size - 1 := by simp [intItems]
  rw [en]
  obtain ⟨h1, h2⟩ := argBest_gt (numAt xs) (xs.size - 1)
  refine h h' tk _ t (old_keptT hk) ?_ fun a ha => ?_
  · rw [numAt_eq]; exact PySem.getD_mem (by rw [List.length_map, Array.length_toList]; omega)
  · obtain ⟨j, hj, rfl⟩ := mem_getD ha
    rw [List.length_map, Array.length_toList] at hj
    rw [← numAt_eq]; exact h2 j (by omega)
theorem sum_tup (hh : A.handled = none) (hl : s.heap.IsTuple l its.toArray) (hi : IntsAre its ns)
    (h : ∀ h' tk t', (∀ b o, s.heap.get? b = some o → h'.get? b = some o) → Q (.int ns.sum t') { s with heap := h', toks := tk }) : wpAny (model prog w) A (call (.builtin "sum") [.ref l]) Q E s := by
  obtain ⟨xs, e⟩ := hi.allInts.items
  have hn : numsOf (intItems xs).toList = ns := by rw [← e]; exact hi.numsOf
  rw [nums_intItems] at hn
  rw [e] at hl
  refine call_sum_walkG (iter_intTup hl fun s₂ e2 st hfp hlI => ?_)
  subst e2
  refine ⟨_, _, _, _, _, _, numAt xs, rfl, Walks.tuple (A := A.in1) hh _ l hlI (intItems xs), st, hfp, (fun _ _ => intItems_at), fun h' tk t' hk => ?_⟩
  have := h h' tk t' (old_keptT hk)
  have en : (intItems xs).size = xs.size := by simp [intItems]
  rw [en, preSum_eq, List.take_of_length_le (by simp), hn]; exact this
end
section
variable {X : Cx}
def rMaxT (K : PySem.W.Frag) : List V → Hp → VK → Prop := fun vs H Q => ∃ (a : Addr) (ns : List Int), vs = [V.ref a] ∧ SqT K H a (ns.map V.int) ∧ 0 < ns.length ∧ ∀ m, m ∈ ns → (∀ y, y ∈ ns → y ≤ m) → Q (.int m) H
theorem cr_maxT (hc : X.calm = true) : CallR X (.builtin "max") (rMaxT X.K) := by
  intro pins s σ H vs us Q I r h
  obtain ⟨a, ns, rfl, hs, hne, q⟩ := h
  obtain ⟨its, rv, hl, _⟩ := I.tuple hs
  rw [Vals.ref1 r]
  exact max_tup (I.ok.hd hc) hl rv.ints hne fun h' tk m t' hk h1 h2 => ⟨.int _, H, I.kept hk, ⟨_, rfl⟩, q m h1 h2⟩
def rSumT (K : PySem.W.Frag) : List V → Hp → VK → Prop := fun vs H Q => ∃ (a : Addr) (ns : List Int), vs = [V.ref a] ∧ SqT K H a (ns.map V.int) ∧ Q (.int ns.sum) H
theorem cr_sumT (hc : X.calm = true) : CallR X (.builtin "sum") (rSumT X.K) := by
  intro pins s σ H vs us Q I r h
  obtain ⟨a, ns, rfl, hs, q⟩ := h
  obtain ⟨its, rv, hl, _⟩ := I.tuple hs
  rw [Vals.ref1 r]
  exact sum_tup (I.ok.hd hc) hl rv.ints fun h' tk t' hk => ⟨.int _, H, I.kept hk, ⟨_, rfl⟩, q⟩
def rIndexT (K : PySem.W.Frag) : V → List V → Hp → VK → Prop := fun x xs H Q => ∃ (a : Addr) (ys : List V) (y : V) (j : Nat) (z : V), x = V.ref a ∧ xs = [y] ∧ SqT K H a ys ∧ flatV y = true ∧ ys.all flatV = true ∧ ys[j]? = some z ∧ eqV z y = true ∧
  (∀ (m : Nat) (z' : V), m < j → ys[m]? = some z' → eqV z' y = false) ∧ Q (.int (j : Nat)) H
theorem mt_indexT : MtR X "tuple.index" (rIndexT X.K) := by
  intro pins s σ H x xs v us Q I rx rxs h
  obtain ⟨a, ys, y, j, z, rfl, rfl, hs, fy, fys, hz, hzj, hno, q⟩ := h
  cases rx
  cases rxs with
  | cons ry rt =>
    rename_i uy ut
    cases rt
    obtain ⟨its, rv, ⟨⟨cls, dd, data, sl⟩, ho, hc, n, hd⟩, hlen⟩ := I.tuple hs
    simp only at hc hd
    subst hc hd
    obtain ⟨u, hu, ru⟩ := rv.get hz
    obtain ⟨hjl, hje⟩ := List.getElem?_eq_some_iff.mp hu
    have hvl := rv.length
    have hj : j < its.toArray.size := by simpa using hjl
    refine call_meets PySem.F.slot_tuple_index ⟨_, ho, rfl⟩ PySem.F.entry_tuple_index (PySem.F.args_tuple_index_2 _ _)
      (TI.tuple_indexAt a its.toArray n dd sl uy (eqU y) j hj ?_ ?_) ⟨ho, fun u' hu' => mem_eqAt ry fy rv fys u' (by simpa using hu'), ?_⟩
    · have e1 : its.toArray[j] = u := by simpa using hje
      rw [e1, eqU_of ru (flat_at fys hz)]
      exact hzj
    · intro m hm hmj
      have hml : m < its.length := by simpa using hm
      have hmy : m < ys.length := by omega
      have hy' : ys[m]? = some ys[m] := List.getElem?_eq_getElem hmy
      obtain ⟨u2, hu2, ru2⟩ := rv.get hy'
      obtain ⟨_, hme⟩ := List.getElem?_eq_some_iff.mp hu2
      have e1 : its.toArray[m] = u2 := by simpa using hme
      rw [e1, eqU_of ru2 (flat_at fys hy')]
      exact hno m _ hmj hy'
    · exact ⟨.int (j : Nat), H, I.tok _, ⟨_, rfl⟩, q⟩
end
/-! ### a tuple once -/
theorem tuple_mul1 (l : Addr) (items : Array Value) (n : Nat) (dd : Option Addr) (sl : Array (Option Value)) (u : Tok) (c1 : (items.isEmpty || (1 : Int) == 1) = true) :
    Meets (Builtin.«tuple.__mul__» ⟨[.ref l, .int 1 u], []⟩) (fun _ R s => s.heap.get? l = some { cls := .type "tuple", dict := dd, data := .seq items n, slots := sl } ∧
      R (.ok (.ret (Value.ref l))) s) :=
  .of_wp fun prog w A R s h => by
    obtain ⟨hp, g, d, tk, os⟩ := s
    obtain ⟨hl, h⟩ := h
    have f1 := AutoSeq1.idx_int
    wp_walk using wpAny_loadPart' hl
    exact ⟨_, rfl, h⟩
def rRepT1 (K : PySem.W.Frag) : R2 := fun x y H Q => ∃ l xs, x = .ref l ∧ y = .int 1 ∧ SqT K H l xs ∧ Q (.ref l) H
theorem op_repT1 {X : Cx} : OpR X (binaryOp .Mult) (rRepT1 X.K) := by
  intro pins s σ H x y v u Q I rx ry h
  obtain ⟨l, xs, rfl, rfl, hT, q⟩ := h
  cases rx
  obtain ⟨t, rfl⟩ := ry
  obtain ⟨its, r, ⟨⟨cls, dd, data, sl⟩, ho, hc, n, hd⟩, hs⟩ := I.tuple hT
  simp only at hc hd
  subst hc hd
  refine wpAny_binaryOp_repeat_ref (T := "tuple") (U := "int") (by decide) ⟨_, ho, rfl⟩ (fun s' => typeIs_int s' 1 t) noFill_tuple_mul PySem.F.fills_int_mul PySem.F.slot_int_rmul repeat_tuple PySem.F.slot_int_index.lookup
    (call_meets PySem.F.slot_int_rmul (typeIs_int s 1 t) PySem.F.entry_int_rmul (PySem.F.args_int_rmul_2 _ _) (int_rmul_tuple 1 t l its.toArray n dd sl)
      ⟨ho, rfl, ⟨_, ho, rfl⟩, call_meets PySem.F.slot_tuple_mul ⟨_, ho, rfl⟩ PySem.F.entry_tuple_mul (PySem.F.args_tuple_mul_2 _ _) (tuple_mul1 l its.toArray n dd sl t (by rw [show ((1 : Int) == 1) = true from rfl, Bool.or_true])) ⟨ho, ?_⟩⟩)
  exact ⟨.ref l, H, I, rfl, q⟩
/-! ### a tuple that was made here -/
section
variable {X : Cx}
def tyZ (x : V) (H : Hp) : Prop := ∃ r o u, x = V.ref r ∧ H r = some (.frz o u) ∧ o.cls = .type "tuple" ∧ o.dict = none
theorem tyZ_is {pins : List (Addr × Obj)} {σ : L2.St} {H : Hp} {s : Shared} {x : V} {v : Value} (I : Inv X pins σ H s) (r : RelV x v) (ty : tyZ x H) :
    s.TypeIs v "tuple" ∧ ∀ a, v = .ref a → ∃ ob, s.heap.get? a = some ob ∧ ob.dict = none := by
  obtain ⟨p, o, u, rfl, h, h1, h2⟩ := ty
  cases r
  obtain ⟨e, _⟩ := I.hok p _ h
  refine ⟨⟨o, e, h1⟩, fun a e2 => ?_⟩
  cases e2
  exact ⟨o, e, h2⟩
variable {o e : Expr} {es : List Expr} {to : TE} {t : TA} {name : Str} {apos cpos : Pos} {T id : String} {r : V → List V → Hp → VK → Prop}
def tBMZ (r : V → List V → Hp → VK → Prop) (to : TE) (t : TA) : TE := fun σ H Q => to σ H fun x H1 => tyZ x H1 ∧ t σ H1 fun xs H2 => r x xs H2 Q
theorem pe_bmZ (pa : PlainAttrs "tuple") (slot : Slot "tuple" name id) (hty : typeOf (.builtin id) = pure (.type "method_descriptor")) (hm : MtR X id r) (ho : PE X o to) (ha : PA X (e :: es) t)
    (hbase : attributeBase o name X.env (eval o X.env) = eval o X.env := by rfl)
    (hfew : ((backTo cpos (starEach (e :: es) X.env)).all (fun x => !x.1) && (backToKw cpos (keywordEach [] X.env)).all (fun x => x.1.isSome)
      && decide ((e :: es).length + ([] : List Keyword).length + (if ([] : List Keyword).isEmpty then 0 else 1) < 30)) = true := by rfl)
    (hline : (apos.endLine == cpos.line) = true := by rfl) (hs : starEach (e :: es) X.env = (false, eval e X.env) :: starEach es X.env := by rfl) (hplain : (backTo cpos (starEach es X.env)).any (·.1) = false := by rfl) :
    PE X (.Call (.Attribute o name apos) (e :: es) [] cpos) (tBMZ r to t) := by
  refine ⟨fun pins s σ H Q I h => ?_⟩
  refine wpAny_Call_method_late hbase hfew hline rfl (thn (ho.run pins s σ H _ I h) fun v s1 ⟨x, H1, I1, r1, ty, q1⟩ => ?_)
  obtain ⟨h1, h2⟩ := tyZ_is I1 r1 ty
  refine ⟨"tuple", id, pa, slot, hty, h1, h2, ?_⟩
  have hA := ha.run cpos pins s1 σ H1 _ I1 q1
  rw [hs] at hA ⊢
  refine Calls.callWith_builtin (by show (false || (backTo cpos (starEach es X.env)).any (·.1)) = false; rw [hplain] <;> rfl) (Calls.evalArgs_plain ?_)
  exact thn hA fun us s2 ⟨vs, H2, I2, r2, q2⟩ => hm pins s2 σ H2 x vs v us Q I2 r1 r2 q2
theorem call_tuple_ofZ : CallR X (.type "tuple") (fun xs H Q => ∃ p ys, xs = [.ref p] ∧ SqL X.K H p ys ∧ ∀ l o, H l = none → o.cls = .type "tuple" → o.dict = none → Q (.ref l) (upd H l (.frz o (.tup ys)))) := by
  intro pins s σ H xs us Q I r h
  obtain ⟨p, ys, rfl, hq, q⟩ := h
  obtain ⟨u, rfl, rx⟩ := vals1 r
  cases rx
  obtain ⟨its, r', pl, hz⟩ := I.list hq
  have hlen := r'.length
  refine call_tuple_list pl.isList (fun h' kp => ?_) (by simp only [List.size_toArray] <;> omega)
  have I1 : Inv X pins σ H { s with heap := h' } := I.kept (t' := s.toks) kp
  have I2 : Inv X pins σ (upd H h'.objs.size (.frz { cls := .type "tuple", data := .seq its.toArray } (.tup ys))) { s with heap := h'.push { cls := .type "tuple", data := .seq its.toArray } } :=
    I1.laid (t' := s.toks) (fun b o e => Heap.get?_push_of_some _ e) (Nat.le_refl _) (show ObjOk X.prog X.w _ _ _ (.frz _ (.tup ys)) from ⟨Heap.get?_push_size _ rfl, hz, its, r', IsTup.new _ _⟩)
  exact ⟨.ref h'.objs.size, _, I2, rfl, q _ _ (I1.hok.fresh (Nat.le_refl _)) rfl rfl⟩
end
/-! ### the rules over data -/
section
variable {X : Cx} {c : Cfg} {δ δ' δ2 : List Sd} {e a b tg iter elt : Expr} {es ifs : List Expr} {pos p : Pos} {d : D} {ds : List D} {i j : Int} {k l : Bool} {x : Str}
/-- a op b op' e3 op'' e4 -/
theorem ed_chain3 {op op' op3 : CmpOp} {g g' g3 : Int → Int → Bool} {e3 e4 : Expr} {m m4 : Int} (ho : OpR X (compareOp op) (rI0 fun i j => .bl (g i j))) (ho' : OpR X (compareOp op') (rI0 fun i j => .bl (g' i j))) (ho3 : OpR X (compareOp op3) (rI0 fun i j => .bl (g3 i j)))
    (ha : ED X c δ a (.int i)) (hb : ED X c δ b (.int j)) (hc : g i j = true → ED X c δ e3 (.int m)) (hd : g i j = true → g' j m = true → ED X c δ e4 (.int m4)) (hm : lastMarks [op, op', op3] [b, e3, e4] = false := by with_unfolding_all rfl) :
    ED X c δ (.Compare a [op, op', op3] [b, e3, e4] p) (.bool (g i j && (g' j m && g3 m m4))) := fun F H σ Q S q => by
  refine uE (t := fun σ H Q => tE X a σ H fun x H1 => tE X b σ H1 fun y H2 => ∃ i j, x = .int i ∧ y = .int j ∧ (g i j = false → Q (.bl false) H2) ∧ (g i j = true → tE X e3 σ H2 fun z H3 => ∃ m, z = .int m ∧ (g' j m = false → Q (.bl false) H3) ∧ (g' j m = true → tE X e4 σ H3 fun u H4 => ∃ n, u = .int n ∧ Q (.bl (g3 m n)) H4))) ⟨fun pins s σ H Q I h => ?_⟩ ?_
  · refine PyProof.Rows.Compare_chain (thn (h pins s I) fun v s1 ⟨x, H1, I1, r1, q1⟩ => PyProof.Rows.chain_link (thn (q1 pins s1 I1) fun u s2 ⟨y, H2, I2, r2, i, j, ex, ey, qf, qt⟩ => ?_)) hm
    subst ex ey
    refine thn (ho pins s2 σ H2 _ _ v u (fun z H' => z = .bl (g i j) ∧ H' = H2) I2 r1 r2 ⟨i, j, rfl, rfl, rfl, rfl⟩) fun d s3 ⟨z, H3, I3, r3, e1, e2⟩ => ?_
    subst e1 e2
    cases r3
    refine wpAny_truthy_bool ?_
    cases hg : g i j with
    | false => exact ite_ff ⟨.bl false, H3, I3, rfl, qf hg⟩
    | true =>
      refine ite_tt (PyProof.Rows.chain_link (thn (qt hg pins s3 I3) fun w s4 ⟨z, H4, I4, r4, m, ez, qf2, qt2⟩ => ?_))
      subst ez
      refine thn (ho' pins s4 σ H4 _ _ u w (fun z H' => z = .bl (g' j m) ∧ H' = H4) I4 r2 r4 ⟨j, m, rfl, rfl, rfl, rfl⟩) fun d s5 ⟨z, H5, I5, r5, e1, e2⟩ => ?_
      subst e1 e2
      cases r5
      refine wpAny_truthy_bool ?_
      cases hg2 : g' j m with
      | false => exact ite_ff ⟨.bl false, H5, I5, rfl, qf2 hg2⟩
      | true =>
        refine ite_tt (PyProof.Rows.chain_last (thn (qt2 hg2 pins s5 I5) fun w2 s6 ⟨z, H6, I6, r6, n, ez, q6⟩ => ?_))
        subst ez
        exact ho3 pins s6 σ H6 _ _ w w2 _ I6 r4 r6 ⟨m, n, rfl, rfl, q6⟩
  · refine ha F H σ _ S fun v F1 H1 s1 d1 => ?_
    refine hb F1 H1 σ _ (S.step s1) fun v2 F2 H2 s2 d2 => ?_
    refine ⟨i, j, dv_int d1, dv_int d2, fun hg => ?_, fun hg => ?_⟩
    · refine q (.bl false) F2 H2 (s1.trans s2) ?_
      rw [hg, Bool.false_and]
      exact .bl false
    · refine hc hg F2 H2 σ _ (S.step (s1.trans s2)) fun v3 F3 H3 s3 d3 => ?_
      refine ⟨m, dv_int d3, fun hg2 => ?_, fun hg2 => ?_⟩
      · refine q (.bl false) F3 H3 ((s1.trans s2).trans s3) ?_
        rw [hg, hg2]
        exact .bl false
      · refine hd hg hg2 F3 H3 σ _ (S.step ((s1.trans s2).trans s3)) fun v4 F4 H4 s4 d4 => ?_
        refine ⟨m4, dv_int d4, q _ F4 H4 (((s1.trans s2).trans s3).trans s4) ?_⟩
        rw [hg, hg2]
        exact .bl _
/-- .. as a test -/
theorem et_chain {op op' : CmpOp} {g g' : Int → Int → Bool} {e3 : Expr} {m : Int} (ho : OpR X (compareOp op) (rI0 fun i j => .bl (g i j))) (ho' : OpR X (compareOp op') (rI0 fun i j => .bl (g' i j)))
    (ha : ED X c δ a (.int i)) (hb : ED X c δ b (.int j)) (hc : g i j = true → ED X c δ e3 (.int m)) (hm : lastMarks [op, op'] [b, e3] = false := by with_unfolding_all rfl) : ET X c δ (.Compare a [op, op'] [b, e3] p) (g i j && g' j m) := fun F H σ Q S q => by
  refine uT (pt_chain ho ho' (sE a) (sE b) (sE e3) hm) ?_
  refine ha F H σ _ S fun v F1 H1 s1 d1 => ?_
  refine hb F1 H1 σ _ (S.step s1) fun v2 F2 H2 s2 d2 => ?_
  refine ⟨i, j, dv_int d1, dv_int d2, _, rfl, ?_⟩
  cases hg : g i j with
  | false =>
    refine iteF ⟨_, rfl, ?_⟩
    have z := q F2 H2 (s1.trans s2)
    rw [hg, Bool.false_and] at z
    exact z
  | true =>
    refine iteT (hc hg F2 H2 σ _ (S.step (s1.trans s2)) fun v3 F3 H3 s3 d3 => ?_)
    refine ⟨j, m, dv_int d2, dv_int d3, _, rfl, ?_⟩
    have z := q F3 H3 ((s1.trans s2).trans s3)
    rw [hg, Bool.true_and] at z
    exact z
theorem room_u0 {k : Nat} {A : Around} (r : Room k A) : A.units < cLine := by have := r.un; omega
/-- t < u, tuples of numbers -/
theorem ec_ltT {ns ms : List Int} (hu : X.A.units < cLine) (ha : ED X c δ a (tupD ns)) (hb : ED X c δ b (tupD ms)) : EC X c δ a .Lt b (HT.lexLt ns ms) :=
  ⟨_, op_ltT hu, nomark _, fun F H σ Q S q => ha F H σ _ S fun v F1 H1 s1 d1 => hb F1 H1 σ _ (S.step s1) fun v2 F2 H2 s2 d2 => by
    have s := s1.trans s2
    obtain ⟨r1, vs1, rfl, e1, k1⟩ := dv_tup (s2.dv d1)
    obtain ⟨r2, vs2, rfl, e2, k2⟩ := dv_tup d2
    have g1 := dvAll_ints k1
    have g2 := dvAll_ints k2
    subst g1 g2
    exact ⟨r1, r2, ns, ms, rfl, rfl, .inl (rd_sub (fz_sub s.fz) e1), .inl (rd_sub (fz_sub s.fz) e2), _, rfl, q F2 H2 s⟩⟩
/-- xs * k -/
theorem el_rep {k : Int} (ha : ER X c δ a ds) (hb : ED X c δ b (.int k)) (h0 : 0 ≤ k) (h1 : k ≤ 1000000) (hz : ds.length * k.toNat ≤ sizeLine) : EL X c δ (.BinOp a .Mult b p) (List.replicate k.toNat ds).flatten := fun F H σ Q S q => by
  refine uE (pe_op op_rep (sE a) (sE b)) ?_
  refine ha F H σ _ S fun r vs F1 H1 s1 e1 k1 => ?_
  refine hb F1 H1 σ _ (S.step s1) fun v2 F2 H2 s2 d2 => ?_
  have s := s1.trans s2
  refine ⟨r, k, vs, rfl, dv_int d2, s2.ext _ _ e1 (by simp) (fun _ z => by cases z), by omega, by omega, by rw [dvAll_len k1]; exact hz, fun p hp => ?_⟩
  exact q p _ F2 _ (s.trans (Stp.newO s.fz s.tb hp)) (s.dom p hp) (fresh_F s hp) upd_same (dvAll_rep (s2.dvs k1) _)
theorem ed_maxT {ns : List Int} {m : Int} (ha : ED X c δ e (.tuple (ns.map .int))) (h1 : m ∈ ns) (h2 : ∀ y, y ∈ ns → y ≤ m) (hc : X.calm = true) (hm : X.mg "max" = none) (hg : Gl X "max" := by rfl) (he : starEach (e :: []) X.env = (false, eval e X.env) :: starEach [] X.env := by rfl) (hpl : (backTo pos (starEach [] X.env)).any (·.1) = false := by rfl) :
    ED X c δ (.Call (.Name "max" p) [e] [] pos) (.int m) := fun F H σ Q S q => by
  refine uE (pe_callB (cr_maxT hc) hg hm (by decide +kernel) (pa_cons (sE e) pa_nil he) (by decide) (by decide) he hpl) ?_
  refine ha F H σ _ S fun v F1 H1 s1 d1 => ?_
  obtain ⟨r, vs, rfl, e1, k1⟩ := dv_tup d1
  rw [dvAll_ints k1] at e1
  refine ⟨r, ns, rfl, .inl (rd_sub (fz_sub s1.fz) e1), List.length_pos_of_mem h1, fun n hn hle => ?_⟩
  have : n = m := Int.le_antisymm (h2 n hn) (hle m h1)
  rw [this]
  exact q _ F1 H1 s1 (.int _)
theorem ed_sumT {ns : List Int} (ha : ED X c δ e (.tuple (ns.map .int))) (hc : X.calm = true) (hm : X.mg "sum" = none) (hg : Gl X "sum" := by rfl) (he : starEach (e :: []) X.env = (false, eval e X.env) :: starEach [] X.env := by rfl) (hpl : (backTo pos (starEach [] X.env)).any (·.1) = false := by rfl) :
    ED X c δ (.Call (.Name "sum" p) [e] [] pos) (.int ns.sum) := fun F H σ Q S q => by
  refine uE (pe_callB (cr_sumT hc) hg hm (by decide +kernel) (pa_cons (sE e) pa_nil he) (by decide) (by decide) he hpl) ?_
  refine ha F H σ _ S fun v F1 H1 s1 d1 => ?_
  obtain ⟨r, vs, rfl, e1, k1⟩ := dv_tup d1
  rw [dvAll_ints k1] at e1
  exact ⟨r, ns, rfl, .inl (rd_sub (fz_sub s1.fz) e1), q _ F1 H1 s1 (.int _)⟩
/-- the first place -/
def IdxAt (ds : List D) (d : D) (j : Nat) : Prop := (∃ z, ds[j]? = some z ∧ eqW z d = true) ∧ ∀ (m : Nat) (z : D), m < j → ds[m]? = some z → eqW z d = false
theorem idx_of {F F' : Hp} {vs : List V} {y : V} {d : D} {j : Nat} (k : DvAll F vs ds) (hy : Dv F' y d) (fd : flatD d = true) (fs : ds.all flatD = true) (h : IdxAt ds d j) :
    flatV y = true ∧ vs.all flatV = true ∧ (∃ z, vs[j]? = some z ∧ eqV z y = true) ∧ ∀ (m : Nat) (z : V), m < j → vs[m]? = some z → eqV z y = false := by
  obtain ⟨⟨z, hz, ez⟩, hno⟩ := h
  refine ⟨flat_of hy fd, (inV_of hy fd k fs).2, ?_, fun m u hm hu => ?_⟩
  · obtain ⟨u, hu, du⟩ := dvAll_get k hz
    have fz : flatD z = true := List.all_eq_true.mp fs z (List.mem_of_getElem? hz)
    exact ⟨u, hu, by rw [eqV_flat du hy fz fd]; exact ez⟩
  · obtain ⟨w, hw, dw⟩ := dvAll_getV k hu
    have fw : flatD w = true := List.all_eq_true.mp fs w (List.mem_of_getElem? hw)
    rw [eqV_flat dw hy fw fd]
    exact hno m w hm hw
theorem ed_indexT {x : Str} (m : Nat) {ap cp : Pos} {jj : Nat} (hδ : δ[m]? = some (.z ds)) (ha : ED X c δ e d) (fd : flatD d = true) (fs : ds.all flatD = true) (h : IdxAt ds d jj)
    (hN : X.N[m]? = some x := by rfl) (hv : Vis X.env.scope x := by first | exact Or.inl rfl | exact Or.inr (Or.inl rfl) | exact Or.inr (Or.inr rfl)) (hd : (x == ("__debug__" : Str)) = false := by decide) (hcd : (x == ("__classdict__" : Str)) = false := by decide)
    (hbase : attributeBase (.Name x p) "index" X.env (eval (.Name x p) X.env) = eval (.Name x p) X.env := by rfl)
    (hfew : ((backTo cp (starEach (e :: []) X.env)).all (fun x => !x.1) && (backToKw cp (keywordEach [] X.env)).all (fun x => x.1.isSome) && decide ((e :: ([] : List Expr)).length + ([] : List Keyword).length + (if ([] : List Keyword).isEmpty then 0 else 1) < 30)) = true := by rfl)
    (hline : (ap.endLine == cp.line) = true := by rfl) (he : starEach (e :: []) X.env = (false, eval e X.env) :: starEach [] X.env := by rfl) (hpl : (backTo cp (starEach [] X.env)).any (·.1) = false := by rfl) :
    ED X c δ (.Call (.Attribute (.Name x p) "index" ap) [e] [] cp) (.int (jj : Nat)) := fun F H σ Q S q => by
  obtain ⟨v, e1, r, o, vs, rfl, hr, ho1, ho2, k1⟩ := S.zt hδ
  refine uE (pe_bmZ PySem.F.plainAttrs_tuple PySem.F.slot_tuple_index PySem.F.type_tuple_index mt_indexT (pe_var hN hv hd hcd) (pa_cons (sE e) pa_nil he) hbase hfew hline he hpl) ?_
  refine ⟨_, e1, ⟨r, o, _, rfl, fz_sub S.fz _ _ hr, ho1, ho2⟩, ?_⟩
  refine ha F H σ _ S fun w F1 H1 s1 d1 => ?_
  obtain ⟨g1, g2, ⟨z, g3, g4⟩, g5⟩ := idx_of k1 d1 fd fs h
  exact ⟨r, vs, w, jj, z, rfl, rfl, .inl (.inr ⟨o, fz_sub s1.fz _ _ (s1.sub _ _ hr)⟩), g1, g2, g3, g4, g5, q _ F1 H1 s1 (.int _)⟩
/-- in a tuple of data -/
def rInDT (K : PySem.W.Frag) (neg : Bool) : R2 := fun x y H Q => ∃ d ds, Dp K H x d ∧ Dp K H y (.tuple ds) ∧ SeqAt.shaped d = true ∧ SeqAt.shaped (.tuple ds) = true ∧ Q (.bl (if neg then !ds.any fun z => PyData.eqv z d else ds.any fun z => PyData.eqv z d)) H
theorem op_inDT (hu : X.A.units + 65 < cLine) : OpR X (compareOp .In) (rInDT X.K false) := by
  intro pins s σ H x y v u Q I rx ry h
  obtain ⟨d, ds, hd, he, sd, se, q⟩ := h
  obtain ⟨as, r1⟩ := Dp.reads I d x v hd rx
  obtain ⟨bs, r2⟩ := Dp.reads I (.tuple ds) y u he ry
  exact SeqAt.in_tuple_reads r2 r1 (SeqAt.canLay_of_shaped se) (SeqAt.canLay_of_shaped sd) (room_in_shaped sd hu) ⟨.bl _, H, I, rfl, q⟩
theorem op_notInDT (hu : X.A.units + 65 < cLine) : OpR X (compareOp .NotIn) (rInDT X.K true) := by
  intro pins s σ H x y v u Q I rx ry h
  obtain ⟨d, ds, hd, he, sd, se, q⟩ := h
  obtain ⟨as, r1⟩ := Dp.reads I d x v hd rx
  obtain ⟨bs, r2⟩ := Dp.reads I (.tuple ds) y u he ry
  exact SeqAt.notIn_tuple_reads r2 r1 (SeqAt.canLay_of_shaped se) (SeqAt.canLay_of_shaped sd) (room_in_shaped sd hu) ⟨.bl _, H, I, rfl, q⟩
theorem ec_inKT {d : D} {ds : List D} (hu : X.A.units + 65 < cLine) (ha : ED X c δ a d) (hb : ED X c δ b (.tuple ds)) (h1 : SeqAt.shaped d = true) (h2 : SeqAt.shaped (.tuple ds) = true) (hm : behindInMarks .In b = false := by rfl) : EC X c δ a .In b (ds.any fun z => PyData.eqv z d) :=
  ⟨_, op_inDT hu, hm, fun F H σ Q S q => by
    refine ha F H σ _ S fun v F1 H1 s1 d1 => ?_
    refine hb F1 H1 σ _ (S.step s1) fun v2 F2 H2 s2 d2 => ?_
    exact ⟨d, ds, dv_dp (fz_sub s2.fz) (s2.dv d1), dv_dp (fz_sub s2.fz) d2, h1, h2, _, rfl, q F2 H2 (s1.trans s2)⟩⟩
theorem ec_notInKT {d : D} {ds : List D} (hu : X.A.units + 65 < cLine) (ha : ED X c δ a d) (hb : ED X c δ b (.tuple ds)) (h1 : SeqAt.shaped d = true) (h2 : SeqAt.shaped (.tuple ds) = true) (hm : behindInMarks .NotIn b = false := by rfl) : EC X c δ a .NotIn b (!ds.any fun z => PyData.eqv z d) :=
  ⟨_, op_notInDT hu, hm, fun F H σ Q S q => by
    refine ha F H σ _ S fun v F1 H1 s1 d1 => ?_
    refine hb F1 H1 σ _ (S.step s1) fun v2 F2 H2 s2 d2 => ?_
    exact ⟨d, ds, dv_dp (fz_sub s2.fz) (s2.dv d1), dv_dp (fz_sub s2.fz) d2, h1, h2, _, rfl, q F2 H2 (s1.trans s2)⟩⟩
/-- t * n, n from 1 on -/
theorem ed_repN {n : Nat} (ha : ED X c δ a (.tuple ds)) (hb : ED X c δ b (.int (n : Nat))) (hne : ds ≠ []) (h1 : 1 ≤ n) (h2 : n ≤ 1000) (hz : ds.length ≤ 1000) : ED X c δ (.BinOp a .Mult b p) (.tuple (List.replicate n ds).flatten) := by
  rcases Nat.lt_or_ge n 2 with z | z
  · have e1 : n = 1 := by omega
    subst e1
    refine fun F H σ Q S q => ?_
    refine uE (pe_op op_repT1 (sE a) (sE b)) ?_
    refine ha F H σ _ S fun v F1 H1 s1 d1 => ?_
    refine hb F1 H1 σ _ (S.step s1) fun v2 F2 H2 s2 d2 => ?_
    have s := s1.trans s2
    have d1' := s2.dv d1
    obtain ⟨r1, vs1, rfl, e1, k1⟩ := dv_tup d1'
    refine ⟨r1, vs1, rfl, dv_int d2, .inl (rd_sub (fz_sub s.fz) e1), ?_⟩
    refine q _ F2 H2 s ?_
    have : (List.replicate 1 ds).flatten = ds := by simp
    rw [this]
    exact d1'
  · have := ed_repT (p := p) (k := (n : Nat)) ha hb hne (by omega) (by omega) hz
    rw [show (((n : Nat) : Int)).toNat = n by omega] at this
    exact this
theorem ed_indexL {x : Str} (m : Nat) {ap cp : Pos} {jj : Nat} (hδ : δ[m]? = some (.d (.list ds))) (ha : ED X c δ e d) (fd : flatD d = true) (fs : ds.all flatD = true) (h : IdxAt ds d jj)
    (hN : X.N[m]? = some x := by rfl) (hv : Vis X.env.scope x := by first | exact Or.inl rfl | exact Or.inr (Or.inl rfl) | exact Or.inr (Or.inr rfl)) (hd : (x == ("__debug__" : Str)) = false := by decide) (hcd : (x == ("__classdict__" : Str)) = false := by decide)
    (hbase : attributeBase (.Name x p) "index" X.env (eval (.Name x p) X.env) = eval (.Name x p) X.env := by rfl)
    (hfew : ((backTo cp (starEach (e :: []) X.env)).all (fun x => !x.1) && (backToKw cp (keywordEach [] X.env)).all (fun x => x.1.isSome) && decide ((e :: ([] : List Expr)).length + ([] : List Keyword).length + (if ([] : List Keyword).isEmpty then 0 else 1) < 30)) = true := by rfl)
    (hline : (ap.endLine == cp.line) = true := by rfl) (he : starEach (e :: []) X.env = (false, eval e X.env) :: starEach [] X.env := by rfl) (hpl : (backTo cp (starEach [] X.env)).any (·.1) = false := by rfl) :
    ED X c δ (.Call (.Attribute (.Name x p) "index" ap) [e] [] cp) (.int (jj : Nat)) := fun F H σ Q S q => by
  obtain ⟨v, e1, dv⟩ := S.data hδ
  obtain ⟨r, vs, rfl, hr, k1⟩ := dv_lst dv
  refine uE (pe_bm PySem.F.plainAttrs_list PySem.F.slot_list_index PySem.F.type_list_index mt_index (pe_var hN hv hd hcd) (pa_cons (sE e) pa_nil he) hbase hfew hline he hpl) ?_
  refine ⟨_, e1, tyL (F := F) (fz_sub S.fz _ _ hr), ?_⟩
  refine ha F H σ _ S fun w F1 H1 s1 d1 => ?_
  obtain ⟨g1, g2, ⟨z, g3, g4⟩, g5⟩ := idx_of k1 d1 fd fs h
  exact ⟨r, vs, w, jj, z, rfl, rfl, SqL.of (fz_sub s1.fz _ _ (s1.sub _ _ hr)), g1, g2, g3, g4, g5, q _ F1 H1 s1 (.int _)⟩
/-- tuple(xs), known to be made here -/
def EZ (X : Cx) (c : Cfg) (δ : List Sd) (e : Expr) (ds : List D) : Prop := ∀ F H σ Q, Sta c F H σ δ → (∀ v F' H', Stp c.T [] F H F' H' → DvZ F' v ds → Q v H') → tE X e σ H Q
theorem ez_tuple (ha : ER X c δ e ds) (hm : X.mg "tuple" = none) (hg : Gl X "tuple" := by rfl) (he : starEach (e :: []) X.env = (false, eval e X.env) :: starEach [] X.env := by rfl) (hpl : (backTo pos (starEach [] X.env)).any (·.1) = false := by rfl) :
    EZ X c δ (.Call (.Name "tuple" p) [e] [] pos) ds := fun F H σ Q S q => by
  refine uE (pe_callTy call_tuple_ofZ hg hm (by decide +kernel) (pa_cons (sE e) pa_nil he) (by decide) (by decide) he hpl) ?_
  refine ha F H σ _ S fun r vs F1 H1 s1 e1 k1 => ?_
  refine ⟨r, vs, rfl, SqL.of e1, fun l o hl h1 h2 => ?_⟩
  exact q _ _ _ (s1.trans (Stp.newF s1.fz s1.tb hl (fun _ z => by cases z))) ⟨l, o, vs, rfl, upd_same, h1, h2, dvAll_sub (Sub.new (fresh_F s1 hl)) k1⟩
theorem w_retZ {Dn : Ends} (he : EZ X c δ e ds) (h : Ret c Dn.rt (.z ds)) : W1 X c δ (.Return (some e) pos) Dn := fun F H σ S => by
  refine uS (ps_ret (sE e)) ?_
  exact he F H σ _ S fun v F' H' s d => h v F' H' (S.base.trans s.wide) d
theorem ed_nameZ (n : Nat) {x : Str} (hδ : δ[n]? = some (.z ds)) (hN : X.N[n]? = some x := by rfl) (hv : Vis X.env.scope x := by first | exact Or.inl rfl | exact Or.inr (Or.inl rfl) | exact Or.inr (Or.inr rfl)) (hd : (x == ("__debug__" : Str)) = false := by decide) (hcd : (x == ("__classdict__" : Str)) = false := by decide) :
    ED X c δ (.Name x p) (.tuple ds) := fun F H σ Q S q => by
  obtain ⟨v, e1, dv⟩ := S.zt hδ
  exact uE (pe_var hN hv hd hcd) ⟨v, e1, q v F H S.refl dv.dv⟩
theorem EU.edz (h : EU X c δ e (.z ds)) : ED X c δ e (.tuple ds) := fun F H σ Q S q => h F H σ Q S fun v F' H' s d => q v F' H' s d.dv
theorem w_setZ (m : Nat) {x : Str} {Dn : Ends} {p' : Pos} (hN : X.N.Nodup) (he : EU X c δ e (.z ds)) (h : Nx c (δ.set m (.z ds)) Dn.nx) (hi : X.N[m]? = some x := by rfl) (hx : Loc X.env.scope x := by first | exact Or.inl rfl | exact Or.inr rfl) (hs : swapsWith e (some (.Name x p')) pos.line X.env = pure false := by rfl) (hf : X.fn x = true ∨ X.env.scope.names.lookup x = some .local := by first | exact .inl rfl | exact .inr rfl) :
    W1 X c δ (.Assign [.Name x p'] e pos) Dn := fun F H σ S => by
  refine uS (ps_set hN hi hx (sE e) hs hf) ?_
  exact he F H σ _ S fun v F' H' s d => h F' H' _ ((S.step s).set m rfl ⟨v, rfl, d⟩)
/-- .. by names -/
theorem ed_callNz {CX : CXT} {m n : Nat} {x : Str} {ps ks : List Str} {CB : Addr} {R : List D → Res → Prop} {zs : List D} {kws : List Keyword} {xs : List D} (C : CalN X.prog X.w X.K X.mg X.base CX n x m ks ps (spD c.T CB R)) (hx : Passes CX X E0) (hr : Room n X.A) (ha : EA X c δ (e :: es) ds) (hk : EK X c δ kws xs) (hm : ds.length = m) (hm2 : xs.length = ks.length) (hR : R (ds ++ xs) (.z zs)) (hg : Gl X x := by rfl)
    (hall : (backToKw pos (keywordEach kws X.env)).all (·.1.isSome) = true := by rfl) (hks : (backToKw pos (keywordEach kws X.env)).filterMap (·.1) = ks := by rfl)
    (hdb : (x == ("__debug__" : Str)) = false := by decide) (he : starEach (e :: es) X.env = (false, eval e X.env) :: starEach es X.env := by rfl)
    (hpl : ((backTo pos (starEach (e :: es) X.env)).any (·.1) || (backToKw pos (keywordEach kws X.env)).any (·.1.isNone)) = false := by rfl) : ED X c δ (.Call (.Name x p) (e :: es) kws pos) (.tuple zs) := fun F H σ Q S q => by
  obtain ⟨f, fd, h1, h2, h3, h4⟩ := C.ex
  obtain ⟨t, pt, ht⟩ := hk
  refine uE (pe_callN h4 hr hg h1 h2 h3 hx (sA (e :: es)) pt hall hks hdb he hpl) ?_
  refine ha F H σ _ S fun vs F1 H1 s1 d1 => ?_
  refine ht F1 H1 σ _ (S.step s1) fun ws F2 H2 s2 d2 => ?_
  have s := s1.trans s2
  exact ⟨by rw [dvAll_len d1]; exact hm, by rw [dvAll_len d2]; exact hm2, F2, ds ++ xs, _, s.tb, s.fz, dvAll_app (s2.dvs d1) d2, hR, fun v F3 H3 s3 d3 => q v F3 H3 (s.trans s3) d3.dv, fun _ z => by cases z⟩
/-- sorted(xs), few numbers -/
theorem el_sortI {ns ms : List Int} (ha : ER X c δ e (ns.map .int)) (h64 : ns.length < 64) (hp : ms.Perm ns) (hs : ms.Pairwise (· ≤ ·)) (hm : X.mg "sorted" = none) (hg : Gl X "sorted" := by rfl) (he : starEach (e :: []) X.env = (false, eval e X.env) :: starEach [] X.env := by rfl) (hpl : (backTo pos (starEach [] X.env)).any (·.1) = false := by rfl) :
    EL X c δ (.Call (.Name "sorted" p) [e] [] pos) (ms.map .int) := fun F H σ Q S q => by
  refine uE (pe_callB cr_sorted hg hm (by decide +kernel) (pa_cons (sE e) pa_nil he) (by decide) (by decide) he hpl) ?_
  refine ha F H σ _ S fun r vs F1 H1 s1 e1 k1 => ?_
  rw [dvAll_ints k1] at e1
  refine ⟨r, ns, rfl, SqL.of e1, h64, fun ns' l hp' hs' hl => ?_⟩
  have e2 : ns' = ms := (hp'.trans hp.symm).eq_of_pairwise (fun a b _ _ h1 h2 => Int.le_antisymm h1 h2) hs' hs
  subst e2
  exact q l _ F1 _ (s1.trans (Stp.newO s1.fz s1.tb hl)) (s1.dom l hl) (fresh_F s1 hl) upd_same (dvAll_ofInts _)
end
end Fs

set_option Elab.async false
set_option linter.all false
set_option maxRecDepth 100000
set_option maxHeartbeats 4000000
namespace Fs
open PySem PySem.Spec L2
abbrev pgm : Program := PySem.Challenge.pw_firesseen_k03_whole_watches
abbrev topAt (i : Nat) : Stmt := PySem.Challenge.pw_firesseen_k03_whole_watches.main.body.getD i (.Pass ⟨0, 0, 0, 0⟩)
abbrev stIsInteger : Stmt := topAt 4
abbrev stNeedInteger : Stmt := topAt 5
abbrev stIsLine : Stmt := topAt 6
abbrev stIsNet : Stmt := topAt 7
abbrev stNeedNet : Stmt := topAt 8
abbrev stNeedHill : Stmt := topAt 9
abbrev stBesideOf : Stmt := topAt 10
abbrev stIsWatch : Stmt := topAt 14
abbrev stAreWatches : Stmt := topAt 15
abbrev stNeedWatches : Stmt := topAt 16
abbrev stTurnOf : Stmt := topAt 17
abbrev stArrivalsOf : Stmt := topAt 18
abbrev stAwakeFrom : Stmt := topAt 19
abbrev stArrivals : Stmt := topAt 20
abbrev stDelays : Stmt := topAt 21
abbrev stWorstDelay : Stmt := topAt 22
abbrev stMeanDelay : Stmt := topAt 23
abbrev stNeededWatchers : Stmt := topAt 24
abbrev stLongerSome : Stmt := topAt 25
abbrev stLawDice : Stmt := topAt 27
abbrev stLawRoll : Stmt := topAt 28
abbrev stLawPick : Stmt := topAt 29
abbrev stLawRefused : Stmt := topAt 30
abbrev stLawGcd : Stmt := topAt 31
abbrev stLawNet : Stmt := topAt 32
abbrev stLawLit : Stmt := topAt 33
abbrev stLawWatches : Stmt := topAt 34
abbrev stLawBurning : Stmt := topAt 35
abbrev stLawDelays : Stmt := topAt 36
abbrev stLawRight : Stmt := topAt 37
abbrev stLaw : Stmt := topAt 38
/-- each def stands -/
structure Fxs (e : En) : Prop where
  isInteger : Fx e "is_integer" stIsInteger
  needInteger : Fx e "need_integer" stNeedInteger
  isLine : Fx e "is_line" stIsLine
  isNet : Fx e "is_net" stIsNet
  needNet : Fx e "need_net" stNeedNet
  needHill : Fx e "need_hill" stNeedHill
  besideOf : Fx e "beside_of" stBesideOf
  isWatch : Fx e "is_watch" stIsWatch
  areWatches : Fx e "are_watches" stAreWatches
  needWatches : Fx e "need_watches" stNeedWatches
  turnOf : Fx e "turn_of" stTurnOf
  arrivalsOf : Fx e "arrivals_of" stArrivalsOf
  awakeFrom : Fx e "awake_from" stAwakeFrom
  arrivals : Fx e "arrivals" stArrivals
  delays : Fx e "delays" stDelays
  worstDelay : Fx e "worst_delay" stWorstDelay
  meanDelay : Fx e "mean_delay" stMeanDelay
  neededWatchers : Fx e "needed_watchers" stNeededWatchers
  longerSome : Fx e "longer_some" stLongerSome
  lawDice : Fx e "_law_dice" stLawDice
  lawRoll : Fx e "_law_roll" stLawRoll
  lawPick : Fx e "_law_pick" stLawPick
  lawRefused : Fx e "_law_refused" stLawRefused
  lawGcd : Fx e "_law_gcd" stLawGcd
  lawNet : Fx e "_law_net" stLawNet
  lawLit : Fx e "_law_lit" stLawLit
  lawWatches : Fx e "_law_watches" stLawWatches
  lawBurning : Fx e "_law_burning" stLawBurning
  lawDelays : Fx e "_law_delays" stLawDelays
  lawRight : Fx e "_law_right" stLawRight
  law : Fx e "law" stLaw
/-- the names of the top that are read, none of the builtins bound -/
structure Top (e : En) : Prop extends Fxs e where
  hP : e.P = pgm
  bad : BadTxt e.P e.K e.mg e.CB e.fI
  bIsinstance : e.mg "isinstance" = none
  bInt : e.mg "int" = none
  bBool : e.mg "bool" = none
  bTuple : e.mg "tuple" = none
  bList : e.mg "list" = none
  bLen : e.mg "len" = none
  bRange : e.mg "range" = none
  bAll : e.mg "all" = none
  bAny : e.mg "any" = none
  bMax : e.mg "max" = none
  bMin : e.mg "min" = none
  bSum : e.mg "sum" = none
  bSorted : e.mg "sorted" = none
  bAbs : e.mg "abs" = none
  bSuper : e.mg "super" = none
  bValueError : e.mg "ValueError" = none
  nMostHills : ∃ t, e.mg "MOST_HILLS" = some (.int 9 t)
  nMostRow : ∃ t, e.mg "MOST_ROW" = some (.int 8 t)
  nMostStep : ∃ t, e.mg "MOST_STEP" = some (.int 1000000000000 t)
  tabs : ∀ x, x ∈ (["is_line", "is_net", "is_watch", "are_watches", "_law_right"] : List Str) → GxR.TabB e.base e.mg (e.ct x).1 (e.ct x).2
  gens : ∀ x, x ∈ (["is_line", "is_net", "is_watch", "are_watches"] : List Str) → ((e.ct x).2, none) ∈ e.T ∧ ∀ q, ((e.ct x).2, some q) ∉ e.T
  lams : ∀ x, x ∈ (["_law_right"] : List Str) → ((e.ct x).2, some ((x ++ ".<locals>.") ++ "<lambda>")) ∈ e.T ∧ ∀ o, ((e.ct x).2, o) ∈ e.T → o = some ((x ++ ".<locals>.") ++ "<lambda>")
end Fs

set_option Elab.async false
set_option linter.all false
set_option maxRecDepth 100000
set_option maxHeartbeats 4000000
/-! Firesseen: is_integer, need_integer. -/
namespace Fs
open PySem PySem.Spec L2
theorem ret_eq {c : Cfg} {Q : VK} {r r' : Res} (h : Ret c Q r) (e : r = r') : Ret c Q r' := e ▸ h
section
variable {e : En}
def rIsInteger (ds : List D) (r : Res) : Prop := ∃ d, ds = [d] ∧ r = .d (.bool (isIntD d))
theorem cal_isInteger (T : Top e) : e.Cal CX0 1 "is_integer" ["value"] rIsInteger := by
  refine T.isInteger.cal (okN (N := ["value"]) ⟨rfl, rfl, rfl, by decide +kernel, rfl, by decide +kernel, by decide +kernel⟩ (by rintro ds r ⟨d, rfl, rfl⟩; rfl) ?_) fun _ _ _ _ _ _ us hl => match us, hl with | [_], _ => rfl
  rintro f A outer s H E F ds r Q hr ⟨d, rfl, rfl⟩ hq
  refine ws_one (w_ret (d := .bool (isIntD d)) ?_ hq)
  have ed : isIntD d = (isIB d && !isBoolD d) := by cases d <;> rfl
  rw [ed]
  exact ed_and (ed_isi (d := d) (T := "int") (ed_name 0 rfl) (kit_int d) T.bIsinstance T.bInt) fun _ => ed_one (ed_not (ed_isi (d := d) (T := "bool") (ed_name 0 rfl) (kit_bool d) T.bIsinstance T.bBool))
/-- d is an int, not below a, not above b -/
def inI (a b : Int) : D → Bool
  | .int i => decide (a ≤ i) && decide (i ≤ b)
  | _ => false
def outI (a b : Int) : D → Bool
  | .int i => decide (i < a) || decide (b < i)
  | _ => false
def rNeedInteger (ds : List D) (r : Res) : Prop := ∃ d nm a b, ds = [d, .str nm, .int a, .int b] ∧ nm.length ≤ 1000 ∧ r = if inI a b d then .d .none else .exc nm
theorem cal_needInteger (T : Top e) : e.Cal e.CX 2 "need_integer" ["value", "name", "least", "most"] rNeedInteger := by
  refine T.needInteger.cal (okR (N := ["value", "name", "least", "most"]) ⟨rfl, rfl, rfl, by decide +kernel, rfl, by decide +kernel, by decide +kernel⟩ (by rintro ds r ⟨d, nm, a, b, rfl, _, rfl⟩; rfl) ?_) fun _ _ _ _ _ _ us hl => match us, hl with | [_, _, _, _], _ => rfl
  rintro f A outer s H E F ds r Q hr ⟨d, nm, a, b, rfl, hl, rfl⟩ hq hx
  have C := cal_isInteger T
  refine ws_one (w_if (k := !inI a b d) (EW.et ?_) (fun hk => ?_) (fun hk => ws_nil ?_))
  · have ek : (!inI a b d) = (!isIntD d || outI a b d) := by
      cases d with
      | int i =>
        simp only [inI, outI, isIntD]
        by_cases h1 : a ≤ i <;> by_cases h2 : i ≤ b <;> simp [h1, h2] <;> omega
      | _ => rfl
    rw [ek]
    refine ew_or (et_not (et_val (ed_call C pass0 (hr.mono (by decide)) (ea_cons (ed_name 0 rfl) ea_nil) ⟨_, rfl, rfl⟩))) fun hi => ?_
    cases d with
    | int i => exact ew_or (ec_lt (ed_name 0 rfl) (ed_name 2 rfl)).et fun _ => ew_or1 (ec_gt (ed_name 0 rfl) (ed_name 3 rfl)).et
    | _ => cases hi
  · rw [if_neg (by simpa using hk)] at hx
    exact ws_one (w_raise T.bad rfl (takes_of rfl rfl rfl rfl) hr (ed_name 1 rfl) hl hx)
  · rw [if_pos (by simpa using hk)] at hq
    exact fun F' H' σ S => hq .non F' H' S.base .non
end
end Fs

set_option Elab.async false
set_option linter.all false
set_option maxRecDepth 100000
set_option maxHeartbeats 4000000
/-! Firesseen: data of the nets' laws: numbers, lots. -/
namespace Fs
open PySem PySem.Spec L2
/-- a lot, lots, as data -/
def nD (n : Nat) : D := .int (n : Int)
def eL (l : List Nat) : D := .tuple (l.map nD)
def eLs (ls : List (List Nat)) : List D := ls.map eL
theorem szl : sizeLine = 16777216 := sizeLine_eq
theorem eLs_len (ls : List (List Nat)) : (eLs ls).length = ls.length := List.length_map _
theorem eLs_app (a b : List (List Nat)) : eLs (a ++ b) = eLs a ++ eLs b := List.map_append
theorem eL_get {l : List Nat} {i : Nat} {x : Nat} (h : l[i]? = some x) : (l.map nD)[i]? = some (.int (x : Int)) := by
  rw [List.getElem?_map, h]
  rfl
theorem eLs_get {ls : List (List Nat)} {i : Nat} {y : D} (h : (eLs ls)[i]? = some y) : ∃ l, ls[i]? = some l ∧ y = eL l := by
  unfold eLs at h
  rw [List.getElem?_map] at h
  cases e : ls[i]? with
  | none => rw [e] at h; cases h
  | some l => rw [e] at h; exact ⟨l, rfl, (Option.some.inj h).symm⟩
theorem map_get {α : Type} {f : α → D} {ls : List α} {i : Nat} {y : D} (h : (ls.map f)[i]? = some y) : ∃ l, ls[i]? = some l ∧ y = f l := by
  rw [List.getElem?_map] at h
  cases e : ls[i]? with
  | none => rw [e] at h; cases h
  | some l => rw [e] at h; exact ⟨l, rfl, (Option.some.inj h).symm⟩
theorem glob_int {X : Cx} {c : Cfg} {δ : List Sd} {p : Pos} {x : Str} {i : Int} (h : ∃ t, X.mg x = some (.int i t)) (hg : Gl X x := by rfl) (hd : (x == ("__debug__" : Str)) = false := by decide) : ED X c δ (.Name x p) (.int i) := by
  obtain ⟨t, ht⟩ := h
  exact ed_glob ht hg hd
def intOf : D → Int
  | .int i => i
  | _ => 0
theorem inI_int {a b : Int} {d : D} (h : inI a b d = true) : d = .int (intOf d) ∧ a ≤ intOf d ∧ intOf d ≤ b := by
  cases d with
  | int i =>
    simp only [inI, Bool.and_eq_true, decide_eq_true_eq] at h
    exact ⟨rfl, h⟩
  | _ => cases h
theorem inI_nat {a b : Int} {d : D} (h : inI a b d = true) (ha : 0 ≤ a) : ∃ n : Nat, d = nD n ∧ a ≤ n ∧ (n : Int) ≤ b := by
  obtain ⟨e, h1, h2⟩ := inI_int h
  refine ⟨(intOf d).toNat, ?_, by omega, by omega⟩
  rw [e]
  show PyData.int (intOf d) = .int (((intOf d).toNat : Nat) : Int)
  congr 1
  omega
theorem inD_nat (n : Nat) (l : List Nat) : inD (nD n) (l.map nD) = decide (n ∈ l) := by
  unfold inD
  rw [List.any_map, Bool.eq_iff_iff, List.any_eq_true]
  simp only [Function.comp, nD, eqW, beq_iff_eq, decide_eq_true_eq]
  constructor
  · rintro ⟨x, hx, e⟩
    rw [← Int.ofNat.inj e]
    exact hx
  · exact fun h => ⟨n, h, rfl⟩
theorem flat_nats (l : List Nat) : (l.map nD).all flatD = true := by
  rw [List.all_map, List.all_eq_true]
  exact fun _ _ => rfl
theorem nD_inj {a b : Nat} (h : nD a = nD b) : a = b := by
  unfold nD at h
  injection h with h
  exact Int.ofNat.inj h
theorem ER.cast {X : Cx} {c : Cfg} {δ : List Sd} {e : Expr} {ds ds' : List D} (h : ER X c δ e ds) (q : ds = ds') : ER X c δ e ds' := q ▸ h
theorem ED.cast {X : Cx} {c : Cfg} {δ : List Sd} {e : Expr} {d d' : D} (h : ED X c δ e d) (q : d = d') : ED X c δ e d' := q ▸ h
theorem ET.cast {X : Cx} {c : Cfg} {δ : List Sd} {e : Expr} {d d' : Bool} (h : ET X c δ e d) (q : d = d') : ET X c δ e d' := q ▸ h
theorem EL.cast {X : Cx} {c : Cfg} {δ : List Sd} {e : Expr} {d d' : List D} (h : EL X c δ e d) (q : d = d') : EL X c δ e d' := q ▸ h
theorem elC {X : Cx} {c : Cfg} {δ : List Sd} {e : Expr} {d d' : List D} (h : EL X c δ e d) (q : d = d') : EL X c δ e d' := q ▸ h
theorem edC {X : Cx} {c : Cfg} {δ : List Sd} {e : Expr} {d d' : D} (h : ED X c δ e d) (q : d = d') : ED X c δ e d' := q ▸ h
theorem lc_map {α : Type} (enc : α → D) (f : D → D) (g : α → D) (h : ∀ x, f (enc x) = g x) (ls : List α) : lcD (fun _ => true) f (ls.map enc) = ls.map g := by
  unfold lcD
  rw [List.filter_eq_self.mpr (fun _ _ => rfl), List.map_map]
  exact List.map_congr_left fun x _ => h x
/-- .. with a test -/
theorem lc_fmap {α : Type} (enc : α → D) (b : D → Bool) (f : D → D) (p : α → Bool) (g : α → D) (hb : ∀ x, b (enc x) = p x) (h : ∀ x, f (enc x) = g x) (ls : List α) : lcD b f (ls.map enc) = (ls.filter p).map g := by
  unfold lcD
  rw [List.filter_map, List.map_map]
  have e : ls.filter (b ∘ enc) = ls.filter p := List.filter_congr fun x _ => hb x
  rw [e]
  exact List.map_congr_left fun x _ => h x
theorem eqF_int (a b : Int) : eqF (.int a) (.int b) = decide (a = b) := by
  unfold eqF
  try rfl
theorem rng_eq (n : Nat) : rngD 0 n = (List.range n).map nD := by
  unfold rngD
  refine List.map_congr_left fun i _ => ?_
  show PyData.int (0 + (i : Nat)) = .int (i : Nat)
  congr 1
  omega
theorem rng_len (lo : Int) (n : Nat) : (rngD lo n).length = n := by
  unfold rngD
  rw [List.length_map, List.length_range]
theorem rng_getN {n i : Nat} {y : D} (h : (rngD 0 n)[i]? = some y) : i < n ∧ y = nD i := by
  obtain ⟨h1, h2⟩ := rngD_get h
  refine ⟨h1, ?_⟩
  rw [h2]
  show PyData.int (0 + (i : Nat)) = .int (i : Nat)
  congr 1
  omega
/-- a number or None -/
def oI : Option Int → D
  | none => .none
  | some i => .int i
theorem isN_oI (o : Option Int) : isN (oI o) = o.isNone := by cases o <;> rfl
theorem scal_oI (a b : Option Int) : scalD (oI a) (oI b) = true := by cases a <;> cases b <;> rfl
theorem eqF_oI (a b : Option Int) : eqF (oI a) (oI b) = decide (a = b) := by
  cases a <;> cases b <;> simp [oI, eqF]
/-! ### nets -/
abbrev Ln : Type := Nat × Nat
def eP (p : Ln) : D := .tuple [nD p.1, nD p.2]
structure Nt where
  h : Nat
  ls : List Ln
def eN (g : Nt) : D := .tuple [nD g.h, .tuple (g.ls.map eP)]
/-- ascending, as tuples are ordered -/
def ltP (p q : Ln) : Bool := decide (p.1 < q.1) || (decide (p.1 = q.1) && decide (p.2 < q.2))
def ascP : List Ln → Bool
  | p :: q :: r => ltP p q && ascP (q :: r)
  | _ => true
structure Nt.Ok (g : Nt) : Prop where
  h1 : 1 ≤ g.h
  h9 : g.h ≤ 9
  ln : ∀ p ∈ g.ls, p.1 < p.2 ∧ p.2 < g.h
  asc : ascP g.ls = true
  few : g.ls.length ≤ 100
end Fs

set_option Elab.async false
set_option linter.all false
set_option maxRecDepth 100000
set_option maxHeartbeats 4000000
/-! Firesseen: is_line, is_net, need_net, need_hill. -/
namespace Fs
open PySem PySem.Spec L2
def isLine (h : Int) : D → Bool
  | .tuple [.int a, .int b] => decide (0 ≤ a) && (decide (a < b) && decide (b < h))
  | _ => false
def ln2 : D → Bool
  | .tuple ds => !decide ((ds.length : Int) = 2) || !ds.all isIntD
  | _ => false
def lnT (d : D) : Bool := !isTupD d || ln2 d
theorem lnT_false {d : D} (h : lnT d = false) : ∃ a b, d = .tuple [.int a, .int b] := by
  cases d with
  | tuple ds =>
    match ds with
    | [x, y] =>
      simp only [lnT, ln2] at h
      cases x <;> cases y <;> simp [isIntD, isTupD] at h
      exact ⟨_, _, rfl⟩
    | [] => simp [lnT, ln2, isTupD] at h
    | [_] => simp [lnT, ln2, isTupD] at h
    | _ :: _ :: _ :: r => simp [lnT, ln2, isTupD] at h; omega
  | _ => simp [lnT, isTupD] at h
theorem lnT_true {d : D} (h : lnT d = true) (n : Int) : isLine n d = false := by
  unfold isLine
  split
  · rename_i a b
    have : lnT (.tuple [.int a, .int b]) = false := rfl
    rw [this] at h
    cases h
  · rfl
def unP : D → Ln
  | .tuple [.int a, .int b] => (a.toNat, b.toNat)
  | _ => (0, 0)
theorem unP_eP (p : Ln) : unP (eP p) = p := by
  obtain ⟨a, b⟩ := p
  simp [unP, eP, nD]
theorem line_of {h : Int} {d : D} (e : isLine h d = true) : d = eP (unP d) ∧ (unP d).1 < (unP d).2 ∧ ((unP d).2 : Int) < h := by
  unfold isLine at e
  split at e
  · rename_i a b
    simp only [Bool.and_eq_true, decide_eq_true_eq] at e
    obtain ⟨e1, e2, e3⟩ := e
    refine ⟨?_, ?_, ?_⟩
    · simp only [unP, eP, nD]
      rw [Int.toNat_of_nonneg e1, Int.toNat_of_nonneg (by omega : 0 ≤ b)]
    · simp only [unP]; omega
    · simp only [unP]; omega
  · cases e
theorem isLine_eP {h : Nat} {p : Ln} (h1 : p.1 < p.2) (h2 : p.2 < h) : isLine (h : Int) (eP p) = true := by
  show (decide ((0 : Int) ≤ (p.1 : Nat)) && (decide (((p.1 : Nat) : Int) < (p.2 : Nat)) && decide (((p.2 : Nat) : Int) < (h : Nat)))) = true
  simp only [Bool.and_eq_true, decide_eq_true_eq]
  omega
def isNetD : D → Bool
  | .tuple [.int h, .tuple ls] => (decide (1 ≤ h) && decide (h ≤ 9)) && (ls.all (isLine h) && ascP (ls.map unP))
  | _ => false
def nt2 : D → Bool
  | .tuple ds => !decide ((ds.length : Int) = 2) || (match ds with
    | [.int h, _] => !(decide (1 ≤ h) && decide (h ≤ 9))
    | _ => true)
  | _ => false
def ntT (d : D) : Bool := !isTupD d || nt2 d
theorem ntT_false {d : D} (h : ntT d = false) : ∃ a b, d = .tuple [.int a, b] ∧ 1 ≤ a ∧ a ≤ 9 := by
  cases d with
  | tuple ds =>
    match ds with
    | [x, y] =>
      simp only [ntT, nt2] at h
      cases x <;> simp [isTupD] at h
      exact ⟨_, _, rfl, h⟩
    | [] => simp [ntT, nt2, isTupD] at h
    | [_] => simp [ntT, nt2, isTupD] at h
    | _ :: _ :: _ :: r => simp [ntT, nt2, isTupD] at h
  | _ => simp [ntT, isTupD] at h
theorem ntT_true {d : D} (h : ntT d = true) : isNetD d = false := by
  unfold isNetD
  split
  · rename_i a b
    have : ntT (.tuple [.int a, .tuple b]) = !(decide (1 ≤ a) && decide (a ≤ 9)) := by simp [ntT, nt2, isTupD]
    rw [this] at h
    have h' : (decide (1 ≤ a) && decide (a ≤ 9)) = false := by
      cases hb : (decide (1 ≤ a) && decide (a ≤ 9)) with
      | false => rfl
      | true => rw [hb] at h; cases h
    rw [h', Bool.false_and]
  · rfl
def lsT (h : Int) : D → Bool
  | .tuple ls => !ls.all (isLine h)
  | _ => true
theorem ltP_lex (p q : Ln) : HT.lexLt [(p.1 : Int), (p.2 : Int)] [(q.1 : Int), (q.2 : Int)] = ltP p q := by
  unfold ltP
  simp only [HT.lexLt]
  by_cases h1 : p.1 < q.1 <;> by_cases h2 : p.1 = q.1 <;> by_cases h3 : p.2 < q.2 <;> simp [h1, h2, h3] <;> omega
def ascF (ps : List Ln) : D → Bool
  | .int k => ltP (ps.getD (k - 1).toNat (0, 0)) (ps.getD k.toNat (0, 0))
  | _ => false
theorem ascP_at : ∀ (ps : List Ln), ascP ps = true ↔ ∀ i, i + 1 < ps.length → ltP (ps.getD i (0, 0)) (ps.getD (i + 1) (0, 0)) = true
  | [] => ⟨fun _ i h => by simp at h, fun _ => rfl⟩
  | [p] => ⟨fun _ i h => by simp at h, fun _ => rfl⟩
  | p :: q :: r => by
    rw [ascP, Bool.and_eq_true, ascP_at (q :: r)]
    constructor
    · rintro ⟨h1, h2⟩ i hi
      cases i with
      | zero => exact h1
      | succ i => exact h2 i (by simpa using hi)
    · intro h
      exact ⟨h 0 (by simp), fun i hi => h (i + 1) (by simpa using hi)⟩
theorem asc_all (ps : List Ln) : (rngD 1 (ps.length - 1)).all (ascF ps) = ascP ps := by
  rw [Bool.eq_iff_iff, List.all_eq_true, ascP_at]
  constructor
  · intro h i hi
    have hx : PyData.int (1 + (i : Nat)) ∈ rngD 1 (ps.length - 1) := List.mem_map.mpr ⟨i, List.mem_range.mpr (by omega), rfl⟩
    have := h _ hx
    simp only [ascF] at this
    rw [show (1 + (i : Int) - 1).toNat = i by omega, show (1 + (i : Int)).toNat = i + 1 by omega] at this
    exact this
  · rintro h x hx
    obtain ⟨i, hi, rfl⟩ := List.mem_map.mp hx
    have := h i (by have := List.mem_range.mp hi; omega)
    simp only [ascF]
    rw [show (1 + (i : Int) - 1).toNat = i by omega, show (1 + (i : Int)).toNat = i + 1 by omega]
    exact this
theorem ltP_code {p q : Ln} (h : ltP p q = true) (hp : p.2 < 9) (hq : q.2 < 9) : 9 * p.1 + p.2 < 9 * q.1 + q.2 := by
  unfold ltP at h
  simp only [Bool.or_eq_true, Bool.and_eq_true, decide_eq_true_eq] at h
  omega
theorem asc_codes : ∀ (ps : List Ln) (lo : Nat), (∀ p ∈ ps, p.2 < 9) → ascP ps = true → (∀ p ∈ ps.head?, lo ≤ 9 * p.1 + p.2) → (∀ p ∈ ps, 9 * p.1 + p.2 < 81) → ps.length + lo ≤ 81 ∨ ps = []
  | [], lo, _, _, _, _ => .inr rfl
  | [p], lo, _, _, h, h2 => .inl (by have := h p (by simp); have := h2 p (by simp); simp; omega)
  | p :: q :: r, lo, h9, ha, h, h2 => by
    rw [ascP, Bool.and_eq_true] at ha
    have hc := ltP_code ha.1 (h9 p (by simp)) (h9 q (by simp))
    rcases asc_codes (q :: r) (lo + 1) (fun x hx => h9 x (List.mem_cons_of_mem _ hx)) ha.2 (fun x hx => by
        have : x = q := by simpa using hx.symm
        subst this
        have := h p (by simp)
        omega) (fun x hx => h2 x (List.mem_cons_of_mem _ hx)) with z | z
    · left; simp at z ⊢; omega
    · cases z
theorem net_of {d : D} (h : isNetD d = true) : ∃ g : Nt, d = eN g ∧ g.Ok := by
  unfold isNetD at h
  split at h
  · rename_i a ls
    simp only [Bool.and_eq_true, decide_eq_true_eq, List.all_eq_true] at h
    obtain ⟨⟨h1, h9⟩, h3, h4⟩ := h
    have e1 : ls = (ls.map unP).map eP := by
      rw [List.map_map]
      refine (List.map_id'' (fun _ => rfl) ls).symm.trans (List.map_congr_left fun x hx => (line_of (h3 x hx)).1)
    have lnb : ∀ p ∈ ls.map unP, p.1 < p.2 ∧ (p.2 : Int) < a := fun p hp => by
      obtain ⟨x, hx, rfl⟩ := List.mem_map.mp hp
      exact (line_of (h3 x hx)).2
    refine ⟨⟨a.toNat, ls.map unP⟩, ?_, by simp only; omega, by simp only; omega, fun p hp => ?_, h4, ?_⟩
    · unfold eN
      rw [← e1]
      show PyData.tuple [.int a, _] = .tuple [.int ((a.toNat : Nat) : Int), _]
      rw [Int.toNat_of_nonneg (by omega)]
    · obtain ⟨q1, q2⟩ := lnb p hp
      refine ⟨q1, ?_⟩
      simp only
      omega
    · rcases asc_codes (ls.map unP) 0 (fun p hp => by have := (lnb p hp).2; omega) h4 (fun _ _ => Nat.zero_le _) (fun p hp => by have := lnb p hp; omega) with z | z
      · simp only; omega
      · simp only [z]; decide
  · cases h
theorem net_is {g : Nt} (G : g.Ok) : isNetD (eN g) = true := by
  show ((decide ((1 : Int) ≤ (g.h : Nat)) && decide (((g.h : Nat) : Int) ≤ 9)) && ((g.ls.map eP).all (isLine (g.h : Nat)) && ascP ((g.ls.map eP).map unP))) = true
  have e : (g.ls.map eP).map unP = g.ls := by
    rw [List.map_map]
    exact List.map_id'' (fun p => unP_eP p) _
  rw [e, G.asc, Bool.and_true]
  have := G.h1
  have := G.h9
  simp only [Bool.and_eq_true, decide_eq_true_eq, List.all_map, List.all_eq_true]
  exact ⟨by omega, fun p hp => isLine_eP (G.ln p hp).1 (G.ln p hp).2⟩
theorem EIF.cast {X : Cx} {c : Cfg} {δ : List Sd} {tg it : Expr} {d d' : List D} (h : EIF X c δ tg it d) (q : d = d') : EIF X c δ tg it d' := q ▸ h
section
variable {e : En}
def rIsLine (ds : List D) (r : Res) : Prop := ∃ d h, ds = [d, .int h] ∧ r = .d (.bool (isLine h d))
theorem cal_isLine (T : Top e) : e.Cal CX0 3 "is_line" ["value", "hills"] rIsLine := by
  refine T.isLine.cal (okN (N := ["value", "hills", "one"]) ⟨rfl, rfl, rfl, by decide +kernel, rfl, by decide +kernel, by decide +kernel⟩ (by rintro ds r ⟨d, h, rfl, rfl⟩; rfl) ?_) fun _ _ _ _ _ _ us hl => match us, hl with | [_, _], _ => rfl
  rintro f A outer s H E F ds r Q hr ⟨d, h, rfl, rfl⟩ hq
  have nd : (["value", "hills", "one"] : List Str).Nodup := by decide +kernel
  have C := cal_isInteger T
  refine ws_cons (w_if (k := lnT d) (EW.et ?_) (fun hk => ?_) (fun hk => ws_nil ?_))
  · refine ew_or (et_not (et_val (ed_isi (d := d) (T := "tuple") (ed_name 0 rfl) (kit_tup _) T.bIsinstance T.bTuple))) fun hz => ?_
    cases d with
    | tuple ds =>
      refine ew_or (ec_ne (e1 := .int ds.length) (e2 := .int 2) (ed_len (ed_name 0 rfl).tq T.bLen) ed_int rfl).et fun _ => ?_
      refine ew_or1 (et_not (et_val (ed_allG (own := [("one", 2)]) (cc := (e.ct "is_line").1) (P := (e.ct "is_line").2) nd (blkOk_by (N := ["value", "hills", "one"]) (sc := defScope stIsLine) (by decide +kernel)) (T.tabs _ (by decide +kernel)) rfl (T.gens _ (by decide +kernel)).1 (T.gens _ (by decide +kernel)).2 hr (ei_tup (ed_name 0 rfl))
        (fun x hx A' s H L code fp => eg_name 2 nd) (fun x hx A' s H L code fp r => ed_call C pass0 r (ea_cons (ed_name 2 rfl) ea_nil) ⟨_, rfl, rfl⟩) T.bAll)))
    | _ => cases hz
  · rw [lnT_true hk] at hq
    exact ws_one (w_ret ed_bl hq)
  · obtain ⟨a, b, rfl⟩ := lnT_false hk
    show WS _ _ _ _ _
    have i0 : atI [PyData.int a, .int b] 0 = some (.int a) := rfl
    have i1 : atI [PyData.int a, .int b] 1 = some (.int b) := rfl
    refine ws_one (w_ret (ed_chain3 (i := 0) (j := a) (m := b) (m4 := h) op_le op_lt op_lt ed_int (ed_ix (ed_name 0 rfl).tq ed_int i0) (fun _ => ed_ix (ed_name 0 rfl).tq ed_int i1) (fun _ _ => ed_name 1 rfl)) hq)
def fewD : D → Bool
  | .tuple [_, .tuple ls] => decide (ls.length ≤ 1000)
  | _ => true
def rIsNet (ds : List D) (r : Res) : Prop := ∃ d, ds = [d] ∧ fewD d = true ∧ r = .d (.bool (isNetD d))
abbrev NIN : List Str := ["value", "one", "at"]
theorem cal_isNet (T : Top e) : e.Cal CX0 5 "is_net" ["value"] rIsNet := by
  refine T.isNet.cal (okN (N := NIN) ⟨rfl, rfl, rfl, by decide +kernel, rfl, by decide +kernel, by decide +kernel⟩ (by rintro ds r ⟨d, rfl, _, rfl⟩; rfl) ?_) fun _ _ _ _ _ _ us hl => match us, hl with | [_], _ => rfl
  rintro f A outer s H E F ds r Q hr ⟨d, rfl, hfew, rfl⟩ hq
  have nd : NIN.Nodup := by decide +kernel
  have C := cal_isInteger T
  refine ws_cons (w_if (k := ntT d) (EW.et ?_) (fun hk => ?_) (fun hk => ws_nil ?_))
  · refine ew_or (et_not (et_val (ed_isi (d := d) (T := "tuple") (ed_name 0 rfl) (kit_tup _) T.bIsinstance T.bTuple))) fun hz => ?_
    cases d with
    | tuple ds =>
      refine ew_or (ec_ne (e1 := .int ds.length) (e2 := .int 2) (ed_len (ed_name 0 rfl).tq T.bLen) ed_int rfl).et fun h2 => ?_
      obtain ⟨x, y, rfl⟩ : ∃ x y, ds = [x, y] := by
        have h3 : (ds.length : Int) = 2 := by simpa [eqF] using h2
        match ds, h3 with
        | [x, y], _ => exact ⟨x, y, rfl⟩
        | [], h3 => simp at h3
        | [_], h3 => simp at h3
        | _ :: _ :: _ :: r, h3 => simp at h3; omega
      have i0 : atI [x, y] 0 = some x := rfl
      have key : (match [x, y] with | [.int h, _] => !(decide (1 ≤ h) && decide (h ≤ 9)) | _ => true) = (!isIntD x || !(decide (1 ≤ intOf x) && decide (intOf x ≤ 9))) := by
        cases x <;> rfl
      rw [key]
      refine ew_or (et_not (et_val (ed_call C pass0 (hr.mono (by decide)) (ea_cons (ed_ix (ed_name 0 rfl).tq ed_int i0) ea_nil) ⟨_, rfl, rfl⟩))) fun hi => ?_
      cases x with
      | int a => exact ew_or1 (et_not (et_chain (i := 1) (j := a) (m := 9) op_le op_le ed_int (ed_ix (ed_name 0 rfl).tq ed_int i0) fun _ => glob_int T.nMostHills))
      | _ => cases hi
    | _ => cases hz
  · rw [ntT_true hk] at hq
    exact ws_one (w_ret ed_bl hq)
  · obtain ⟨a, b, rfl, ha1, ha9⟩ := ntT_false hk
    show WS _ _ _ _ _
    have i0 : atI [PyData.int a, b] 0 = some (.int a) := rfl
    have i1 : atI [PyData.int a, b] 1 = some b := rfl
    refine ws_cons (w_if (k := lsT a b) (EW.et ?_) (fun hk => ?_) (fun hk => ws_nil ?_))
    · have ek : lsT a b = (!isTupD b || lsT a b) := by cases b <;> rfl
      rw [ek]
      refine ew_or (et_not (et_val (ed_isi (d := b) (T := "tuple") (ed_ix (ed_name 0 rfl).tq ed_int i1) (kit_tup _) T.bIsinstance T.bTuple))) fun hz => ?_
      cases b with
      | tuple ls =>
        refine ew_or1 (et_not (et_val (ed_allG (own := [("one", 1)]) (cc := (e.ct "is_net").1) (P := (e.ct "is_net").2) nd (blkOk_by (N := NIN) (sc := defScope stIsNet) (by decide +kernel)) (T.tabs _ (by decide +kernel)) rfl (T.gens _ (by decide +kernel)).1 (T.gens _ (by decide +kernel)).2 hr (ei_tup (ed_ix (ed_name 0 rfl).tq ed_int i1))
          (fun x hx A' s H L code fp => eg_name 1 nd) (fun x hx A' s H L code fp r => ed_call (cal_isLine T) pass0 (r.mono (by decide)) (ea_cons (ed_name 1 rfl) (ea_cons (ed_ix (ED.tq (ed_name 0 rfl)) ed_int i0) ea_nil)) ⟨_, _, rfl, rfl⟩) T.bAll)))
      | _ => cases hz
    · have e0 : isNetD (.tuple [.int a, b]) = false := by
        cases b with
        | tuple ls =>
          have : ls.all (isLine a) = false := by simpa [lsT] using hk
          show ((decide (1 ≤ a) && decide (a ≤ 9)) && (ls.all (isLine a) && ascP (ls.map unP))) = false
          rw [this, Bool.false_and, Bool.and_false]
        | _ => rfl
      rw [e0] at hq
      exact ws_one (w_ret ed_bl hq)
    · cases b with
      | tuple ls =>
        have hall : ls.all (isLine a) = true := by simpa [lsT] using hk
        have e0 : isNetD (.tuple [.int a, .tuple ls]) = ascP (ls.map unP) := by
          show ((decide (1 ≤ a) && decide (a ≤ 9)) && (ls.all (isLine a) && ascP (ls.map unP))) = _
          rw [hall, decide_eq_true ha1, decide_eq_true ha9]
          rfl
        rw [e0] at hq
        have hl3 := List.all_eq_true.mp hall
        have e1 : ls = (ls.map unP).map eP := by
          rw [List.map_map]
          refine (List.map_id'' (fun _ => rfl) ls).symm.trans (List.map_congr_left fun x hx => (line_of (hl3 x hx)).1)
        have hb : ∀ p ∈ ls.map unP, p.1 < p.2 ∧ (p.2 : Int) < a := fun p hp => by
          obtain ⟨x, hx, rfl⟩ := List.mem_map.mp hp
          exact (line_of (hl3 x hx)).2
        generalize ls.map unP = ps at hq e1 hb
        have hfew : decide (ls.length ≤ 1000) = true := hfew
        subst e1
        rw [← asc_all ps] at hq
        have eP_at : ∀ i, i < ps.length → atI (ps.map eP) (i : Nat) = some (eP (ps.getD i (0, 0))) := fun i hi => by
          refine atI_nat ?_
          rw [List.getElem?_map, List.getElem?_eq_getElem hi, List.getD_eq_getElem?_getD, List.getElem?_eq_getElem hi]
          rfl
        have et : ∀ p : Ln, eP p = tupD [(p.1 : Int), (p.2 : Int)] := fun _ => rfl
        have hrg : ∀ x ∈ rngD 1 (ps.length - 1), ∃ i, i + 1 < ps.length ∧ x = .int (1 + (i : Nat)) := fun x hx => by
          obtain ⟨i, hi, rfl⟩ := List.mem_map.mp hx
          exact ⟨i, by have := List.mem_range.mp hi; omega, rfl⟩
        refine ws_one (w_ret (ed_allG (f := ascF ps) (own := [("at", 2)]) (ds := rngD 1 (ps.length - 1)) (cc := (e.ct "is_net").1) (P := (e.ct "is_net").2) nd (blkOk_by (N := NIN) (sc := defScope stIsNet) (by decide +kernel)) (T.tabs _ (by decide +kernel)) rfl (T.gens _ (by decide +kernel)).1 (T.gens _ (by decide +kernel)).2 hr ?_
          (fun x hx A' s H L code fp => eg_name 2 nd) (fun x hx A' s H L code fp r => ?_) T.bAll) hq)
        · refine EIF.cast (ei_range2 ed_int (ed_len (ED.tq (ed_ix (ED.tq (ed_name 0 rfl)) ed_int i1)) T.bLen) (by constructor <;> omega) ?_ T.bRange) ?_
          · have := of_decide_eq_true hfew
            constructor <;> omega
          · rw [List.length_map]
            congr 1
            omega
        · obtain ⟨i, hi, rfl⟩ := hrg x hx
          have e1 : ascF ps (.int (1 + (i : Nat))) = HT.lexLt [((ps.getD i (0, 0)).1 : Int), ((ps.getD i (0, 0)).2 : Int)] [((ps.getD (i + 1) (0, 0)).1 : Int), ((ps.getD (i + 1) (0, 0)).2 : Int)] := by
            rw [ltP_lex]
            simp only [ascF]
            rw [show (1 + (i : Int) - 1).toNat = i by omega, show (1 + (i : Int)).toNat = i + 1 by omega]
          rw [e1]
          refine (ec_ltT (room_u0 r) (edC (ed_ix (ED.tq (ed_ix (ED.tq (ed_name 0 rfl)) ed_int i1)) (ed_sub (ed_name 2 rfl) ed_int) ?_) (et _)) (edC (ed_ix (ED.tq (ed_ix (ED.tq (ed_name 0 rfl)) ed_int i1)) (ed_name 2 rfl) ?_) (et _))).ed
          · rw [show (1 + ((i : Nat) : Int) - 1) = (i : Nat) by omega]
            exact eP_at i (by omega)
          · rw [show (1 + ((i : Nat) : Int)) = ((i + 1 : Nat) : Int) by omega]
            exact eP_at (i + 1) hi
      | _ => cases hk
theorem few_net {g : Nt} (G : g.Ok) : fewD (eN g) = true := by
  have := G.few
  show decide ((g.ls.map eP).length ≤ 1000) = true
  rw [List.length_map]
  exact decide_eq_true (by omega)
def rNeedNet (ds : List D) (r : Res) : Prop := ∃ d nm, ds = [d, .str nm] ∧ nm.length ≤ 1000 ∧ fewD d = true ∧ r = if isNetD d then .d .none else .exc nm
theorem cal_needNet (T : Top e) : e.Cal e.CX 6 "need_net" ["value", "name"] rNeedNet := by
  refine T.needNet.cal (okR (N := ["value", "name"]) ⟨rfl, rfl, rfl, by decide +kernel, rfl, by decide +kernel, by decide +kernel⟩ (by rintro ds r ⟨d, nm, rfl, _, _, rfl⟩; rfl) ?_) fun _ _ _ _ _ _ us hl => match us, hl with | [_, _], _ => rfl
  rintro f A outer s H E F ds r Q hr ⟨d, nm, rfl, hl, hfew, rfl⟩ hq hx
  refine ws_one (w_if (k := !isNetD d) (et_not (et_val (ed_call (cal_isNet T) pass0 hr (ea_cons (ed_name 0 rfl) ea_nil) ⟨_, rfl, hfew, rfl⟩))) (fun hk => ?_) (fun hk => ws_nil ?_))
  · rw [if_neg (by simpa using hk)] at hx
    exact ws_one (w_raise T.bad rfl (takes_of rfl rfl rfl rfl) hr (ed_name 1 rfl) hl hx)
  · rw [if_pos (by simpa using hk)] at hq
    exact fun F' H' σ S => hq .non F' H' S.base .non
def rNeedHill (ds : List D) (r : Res) : Prop := ∃ (g : Nt) (d : D) (nm : Str), ds = [eN g, d, .str nm] ∧ nm.length ≤ 1000 ∧ r = if inI 0 ((g.h : Int) - 1) d then .d .none else .exc nm
theorem net0 {g : Nt} : atI [nD g.h, PyData.tuple (g.ls.map eP)] 0 = some (nD g.h) := rfl
theorem net1 {g : Nt} : atI [nD g.h, PyData.tuple (g.ls.map eP)] 1 = some (PyData.tuple (g.ls.map eP)) := rfl
theorem cal_needHill (T : Top e) : e.Cal e.CX 3 "need_hill" ["net", "value", "name"] rNeedHill := by
  refine T.needHill.cal (okR (N := ["net", "value", "name"]) ⟨rfl, rfl, rfl, by decide +kernel, rfl, by decide +kernel, by decide +kernel⟩ (by rintro ds r ⟨g, d, nm, rfl, _, rfl⟩; rfl) ?_) fun _ _ _ _ _ _ us hl => match us, hl with | [_, _, _], _ => rfl
  rintro f A outer s H E F ds r Q hr ⟨g, d, nm, rfl, hl, rfl⟩ hq hx
  have tk : Takes (e.cxR ["net", "value", "name"] "need_hill" stNeedHill f A outer s H E) (fun cls d _ H => E cls d H) := takes_of rfl rfl rfl rfl
  refine ws_one (w_callX (r := if inI 0 ((g.h : Int) - 1) d then .d .none else .exc nm) (cal_needInteger T) tk hr (ea_cons (ed_name 1 rfl) (ea_cons (ed_name 2 rfl) (ea_cons ed_int (ea_cons (ed_sub (ed_ix (ED.tq (ed_name 0 rfl)) ed_int net0) ed_int) ea_nil)))) ⟨_, _, _, _, rfl, hl, rfl⟩ (fun d2 hd => ?_) hx ?_)
  · rw [show (if inI 0 ((g.h : Int) - 1) d then Res.d .none else .exc nm) = .d .none by
      cases hz : inI 0 ((g.h : Int) - 1) d with
      | true => rfl
      | false => rw [hz] at hd; cases hd] at hq
    exact fun F' H' σ S => hq .non F' H' S.base .non
  · cases inI 0 ((g.h : Int) - 1) d with
    | true => exact .inl ⟨_, rfl⟩
    | false => exact .inr ⟨_, rfl⟩
end
end Fs

set_option Elab.async false
set_option linter.all false
set_option maxRecDepth 100000
set_option maxHeartbeats 4000000
/-! Firesseen: the hills that a hill sees, plain. -/
namespace Fs
open PySem PySem.Spec L2
def adj (g : Nt) (i j : Nat) : Bool := g.ls.contains (i, j) || g.ls.contains (j, i)
def bes (g : Nt) (i : Nat) : List Nat := (List.range g.h).filter (adj g i)
theorem adj_symm (g : Nt) (i j : Nat) : adj g i j = adj g j i := by
  unfold adj
  rw [Bool.or_comm]
theorem adj_iff {g : Nt} {i j : Nat} : adj g i j = true ↔ (i, j) ∈ g.ls ∨ (j, i) ∈ g.ls := by
  unfold adj
  simp
theorem mem_bes {g : Nt} (G : g.Ok) {i j : Nat} : j ∈ bes g i ↔ adj g i j = true := by
  unfold bes
  rw [List.mem_filter, List.mem_range]
  constructor
  · exact fun h => h.2
  · intro h
    refine ⟨?_, h⟩
    rcases adj_iff.mp h with h | h
    · exact (G.ln _ h).2
    · have := G.ln _ h
      simp only at this
      omega
theorem bes_lt {g : Nt} {i j : Nat} (h : j ∈ bes g i) : j < g.h := List.mem_range.mp (List.mem_filter.mp h).1
theorem ltP_trans {p q r : Ln} (h1 : ltP p q = true) (h2 : ltP q r = true) : ltP p r = true := by
  unfold ltP at *
  simp only [Bool.or_eq_true, Bool.and_eq_true, decide_eq_true_eq] at *
  omega
theorem asc_pair : ∀ {ps : List Ln}, ascP ps = true → ps.Pairwise (fun p q => ltP p q = true)
  | [], _ => .nil
  | [p], _ => List.pairwise_singleton _ _
  | p :: q :: r, h => by
    rw [ascP, Bool.and_eq_true] at h
    have ih := asc_pair h.2
    refine List.pairwise_cons.mpr ⟨fun x hx => ?_, ih⟩
    rcases List.mem_cons.mp hx with rfl | hx
    · exact h.1
    · exact ltP_trans h.1 ((List.pairwise_cons.mp ih).1 x hx)
theorem asc_nodup {ps : List Ln} (h : ascP ps = true) : ps.Nodup := by
  refine (asc_pair h).imp fun {p q} hpq e => ?_
  subst e
  unfold ltP at hpq
  simp only [Bool.or_eq_true, Bool.and_eq_true, decide_eq_true_eq] at hpq
  omega
def besA (g : Nt) (i : Nat) : List Nat := ((g.ls.filter fun p => decide (p.1 = i)).map (·.2))
def besB (g : Nt) (i : Nat) : List Nat := ((g.ls.filter fun p => decide (p.2 = i)).map (·.1))
theorem mem_besA {g : Nt} {i j : Nat} : j ∈ besA g i ↔ (i, j) ∈ g.ls := by
  unfold besA
  simp only [List.mem_map, List.mem_filter, decide_eq_true_eq]
  constructor
  · rintro ⟨⟨a, b⟩, ⟨h1, h2⟩, h3⟩
    simp only at h2 h3
    subst h2 h3
    exact h1
  · exact fun h => ⟨(i, j), ⟨h, rfl⟩, rfl⟩
theorem mem_besB {g : Nt} {i j : Nat} : j ∈ besB g i ↔ (j, i) ∈ g.ls := by
  unfold besB
  simp only [List.mem_map, List.mem_filter, decide_eq_true_eq]
  constructor
  · rintro ⟨⟨a, b⟩, ⟨h1, h2⟩, h3⟩
    simp only at h2 h3
    subst h2 h3
    exact h1
  · exact fun h => ⟨(j, i), ⟨h, rfl⟩, rfl⟩
theorem nodup_map_on {α β : Type} {f : α → β} {l : List α} (hf : ∀ a ∈ l, ∀ b ∈ l, f a = f b → a = b) (h : l.Nodup) : (l.map f).Nodup := by
  induction l with
  | nil => exact List.nodup_nil
  | cons a l ih =>
    rw [List.map_cons, List.nodup_cons]
    obtain ⟨h1, h2⟩ := List.nodup_cons.mp h
    refine ⟨fun hm => ?_, ih (fun x hx y hy => hf x (List.mem_cons_of_mem _ hx) y (List.mem_cons_of_mem _ hy)) h2⟩
    obtain ⟨b, hb, e⟩ := List.mem_map.mp hm
    have := hf b (List.mem_cons_of_mem _ hb) a List.mem_cons_self e
    subst this
    exact h1 hb
theorem bes_perm {g : Nt} (G : g.Ok) (i : Nat) : (bes g i).Perm (besA g i ++ besB g i) := by
  have nd := asc_nodup G.asc
  have n1 : (besA g i).Nodup := nodup_map_on (fun a ha b hb e => by
    have h1 := (List.mem_filter.mp ha).2
    have h2 := (List.mem_filter.mp hb).2
    simp only [decide_eq_true_eq] at h1 h2
    exact Prod.ext (h1.trans h2.symm) e) (nd.sublist List.filter_sublist)
  have n2 : (besB g i).Nodup := nodup_map_on (fun a ha b hb e => by
    have h1 := (List.mem_filter.mp ha).2
    have h2 := (List.mem_filter.mp hb).2
    simp only [decide_eq_true_eq] at h1 h2
    exact Prod.ext e (h1.trans h2.symm)) (nd.sublist List.filter_sublist)
  refine (List.perm_ext_iff_of_nodup ?_ ?_).mpr fun j => ?_
  · exact List.nodup_range.sublist List.filter_sublist
  · refine List.nodup_append.mpr ⟨n1, n2, fun a ha b hb e => ?_⟩
    subst e
    have h1 := G.ln _ (mem_besA.mp ha)
    have h2 := G.ln _ (mem_besB.mp hb)
    simp only at h1 h2
    omega
  · rw [mem_bes G, adj_iff, List.mem_append, mem_besA, mem_besB]
theorem range_le (n : Nat) : (List.range n).Pairwise (· ≤ ·) := List.pairwise_lt_range.imp fun h => Nat.le_of_lt h
theorem bes_sorted (g : Nt) (i : Nat) : (bes g i).Pairwise (· ≤ ·) := (range_le _).sublist List.filter_sublist
/-- as numbers -/
def iN (l : List Nat) : List Int := l.map fun n : Nat => (n : Int)
theorem iN_map (l : List Nat) : (iN l).map PyData.int = l.map nD := by
  unfold iN
  rw [List.map_map]
  rfl
theorem iN_perm {a b : List Nat} (h : a.Perm b) : (iN a).Perm (iN b) := h.map _
theorem iN_sorted {a : List Nat} (h : a.Pairwise (· ≤ ·)) : (iN a).Pairwise (· ≤ ·) := by
  unfold iN
  rw [List.pairwise_map]
  exact h.imp fun h => Int.ofNat_le.mpr h
section
variable {X : Cx} {c : Cfg} {δ : List Sd} {e : Expr} {p pos : Pos}
/-- sorted(few numbers) -/
theorem el_sortN {ns ms : List Nat} (ha : ER X c δ e (ns.map nD)) (h64 : ns.length < 64) (hp : ms.Perm ns) (hs : ms.Pairwise (· ≤ ·)) (hm : X.mg "sorted" = none) (hg : Gl X "sorted" := by rfl) (he : starEach (e :: []) X.env = (false, eval e X.env) :: starEach [] X.env := by rfl) (hpl : (backTo pos (starEach [] X.env)).any (·.1) = false := by rfl) :
    EL X c δ (.Call (.Name "sorted" p) [e] [] pos) (ms.map nD) := by
  rw [← iN_map] at ha ⊢
  exact el_sortI ha (by unfold iN; rw [List.length_map]; exact h64) (iN_perm hp) (iN_sorted hs) hm hg he hpl
end
end Fs

set_option Elab.async false
set_option linter.all false
set_option maxRecDepth 100000
set_option maxHeartbeats 4000000
/-! Firesseen: beside_of. -/
namespace Fs
open PySem PySem.Spec L2
/-- the item of a pair -/
def pI (x : D) (i : Nat) : D := match x with
  | .tuple ds => ds.getD i .none
  | _ => .none
section
variable {e : En}
def rBeside (ds : List D) (r : Res) : Prop := ∃ (g : Nt) (i : Nat), g.Ok ∧ i < g.h ∧ ds = [eN g, nD i] ∧ r = .l ((bes g i).map nD)
abbrev NBe : List Str := ["net", "hill", "found", "one", "other"]
theorem scal_n (a b : Nat) : scalD (nD a) (nD b) = true := rfl
theorem eqF_n (a b : Nat) : eqF (nD a) (nD b) = decide (a = b) := by
  unfold nD
  rw [eqF_int]
  exact decide_eq_decide.mpr ⟨Int.ofNat.inj, fun h => by rw [h]⟩
theorem cal_beside (T : Top e) : e.Cal CX0 1 "beside_of" ["net", "hill"] rBeside := by
  refine T.besideOf.cal (okN (N := NBe) ⟨rfl, rfl, rfl, by decide +kernel, rfl, by decide +kernel, by decide +kernel⟩ (by rintro ds r ⟨g, i, _, _, rfl, rfl⟩; rfl) ?_) fun _ _ _ _ _ _ us hl => match us, hl with | [_, _], _ => rfl
  rintro f A outer s H E F ds r Q hr ⟨g, i, G, hi, rfl, rfl⟩ hq
  have nd : NBe.Nodup := by decide +kernel
  have hfew := G.few
  refine ws_cons (w_setLc 2 (own := [("one", 3), ("other", 4)]) (kb := fun x => eqF (pI x 0) (nD i)) (f := fun x => pI x 1) (δx := fun x => [.d (eN g), .d (nD i), .un, .d (pI x 0), .d (pI x 1)]) (blkOk_by (N := NBe) (sc := defScope stBesideOf) (by decide +kernel)) nd rfl (ei_tup (ed_ix (ED.tq (ed_name 0 rfl)) ed_int net1)).toC ?_ (fun x hx s H C cl fp => ?_) (fun x hx s H C cl fp => ?_) (fun x hx _ s H C cl fp => ed_name 4 rfl) ?_)
  · rw [List.length_map, szl]; omega
  · obtain ⟨p, hp, rfl⟩ := List.mem_map.mp hx
    exact eg_tup rfl (egs_cons (eg_name 3 nd) (egs_cons (eg_name 4 nd) egs_nil))
  · obtain ⟨p, hp, rfl⟩ := List.mem_map.mp hx
    exact eps_one (ec_eq (e1 := nD p.1) (e2 := nD i) (ed_name 3 rfl) (ed_name 1 rfl) rfl).et
  · rw [lc_fmap eP _ _ (fun p => decide (p.1 = i)) (fun p => nD p.2) (fun p => eqF_n _ _) (fun p => rfl)]
    have e1 : (g.ls.filter fun p => decide (p.1 = i)).map (fun p => nD p.2) = (besA g i).map nD := by
      unfold besA
      rw [List.map_map]
      rfl
    rw [e1]
    show WS _ _ [.d (eN g), .d (nD i), .l ((besA g i).map nD), .un, .un] _ _
    have hl : (besA g i ++ besB g i).length < 64 := by
      rw [← (bes_perm G i).length_eq]
      have h1 : (bes g i).length ≤ (List.range g.h).length := List.length_filter_le _ _
      have := G.h9
      rw [List.length_range] at h1
      omega
    have hl2 : (besB g i).length < 64 := by rw [List.length_append] at hl; omega
    refine ws_one (w_retL (el_sortN (ns := besA g i ++ besB g i) (ER.cast (EL.r (el_cat (xs := (besA g i).map nD) (ys := (besB g i).map nD) (er_name 2 rfl) (EL.r (elC (el_lc (own := [("one", 3), ("other", 4)]) (b := fun x => eqF (pI x 1) (nD i)) (f := fun x => pI x 0) (δx := fun x => [.d (eN g), .d (nD i), .l ((besA g i).map nD), .d (pI x 0), .d (pI x 1)]) (blkOk_by (N := NBe) (sc := defScope stBesideOf) (by decide +kernel)) rfl nd (ei_tup (ed_ix (ED.tq (ed_name 0 rfl)) ed_int net1)).toC ?_ (fun x hx s H C cl fp => ?_) (fun x hx s H C cl fp => ?_) (fun x hx _ s H C cl fp => ed_name 3 rfl)) ?_)) ?_)) ?_) hl (bes_perm G i) (bes_sorted g i) T.bSorted) hq)
    · rw [List.length_map, szl]; omega
    · obtain ⟨p, hp, rfl⟩ := List.mem_map.mp hx
      exact eg_tup rfl (egs_cons (eg_name 3 nd) (egs_cons (eg_name 4 nd) egs_nil))
    · obtain ⟨p, hp, rfl⟩ := List.mem_map.mp hx
      exact eps_one (ec_eq (e1 := nD p.2) (e2 := nD i) (ed_name 4 rfl) (ed_name 1 rfl) rfl).et
    · rw [lc_fmap eP _ _ (fun p => decide (p.2 = i)) (fun p => nD p.1) (fun p => eqF_n _ _) (fun p => rfl)]
      unfold besB
      rw [List.map_map]
      rfl
    · rw [List.length_map, List.length_map, szl]
      rw [List.length_append] at hl
      omega
    · rw [List.map_append]
end
end Fs

set_option Elab.async false
set_option linter.all false
set_option maxRecDepth 100000
set_option maxHeartbeats 4000000
/-! Firesseen: is_watch, are_watches, need_watches. -/
namespace Fs
open PySem PySem.Spec L2
abbrev Wt : Type := List Bool
def eW (w : Wt) : D := .tuple (w.map .bool)
def eWs (ws : List Wt) : D := .tuple (ws.map eW)
def isWatchD : D → Bool
  | .tuple ds => (decide ((1 : Int) ≤ ds.length) && decide ((ds.length : Int) ≤ 8)) && ds.all isBoolD
  | _ => false
def wt2 : D → Bool
  | .tuple ds => !(decide ((1 : Int) ≤ ds.length) && decide ((ds.length : Int) ≤ 8))
  | _ => false
def areW (h : Int) : D → Bool
  | .tuple ds => decide ((ds.length : Int) = h) && ds.all isWatchD
  | _ => false
def unW : D → Wt
  | .tuple ds => ds.map fun
    | .bool b => b
    | _ => false
  | _ => []
theorem unW_eW (w : Wt) : unW (eW w) = w := by
  unfold unW eW
  simp only [List.map_map]
  exact List.map_id'' (fun _ => rfl) _
theorem watch_of {d : D} (h : isWatchD d = true) : d = eW (unW d) ∧ 1 ≤ (unW d).length ∧ (unW d).length ≤ 8 := by
  cases d with
  | tuple ds =>
    simp only [isWatchD, Bool.and_eq_true, decide_eq_true_eq, List.all_eq_true] at h
    obtain ⟨⟨h1, h2⟩, h3⟩ := h
    refine ⟨?_, ?_, ?_⟩
    · unfold eW unW
      simp only [List.map_map]
      congr 1
      refine (List.map_id'' (fun _ => rfl) ds).symm.trans (List.map_congr_left fun x hx => ?_)
      have := h3 x hx
      cases x with
      | bool b => rfl
      | _ => cases this
    · simp only [unW, List.length_map]; omega
    · simp only [unW, List.length_map]; omega
  | _ => cases h
theorem isWatch_eW {w : Wt} (h1 : 1 ≤ w.length) (h8 : w.length ≤ 8) : isWatchD (eW w) = true := by
  show ((decide ((1 : Int) ≤ ((w.map PyData.bool).length : Nat)) && decide ((((w.map PyData.bool).length : Nat) : Int) ≤ 8)) && (w.map PyData.bool).all isBoolD) = true
  simp only [List.length_map, Bool.and_eq_true, decide_eq_true_eq, List.all_map, List.all_eq_true]
  exact ⟨by omega, fun _ _ => rfl⟩
/-- a net and watches -/
structure GoodW (d dw : D) (g : Nt) (ws : List Wt) : Prop where
  hd : d = eN g
  G : g.Ok
  hw : dw = eWs ws
  len : ws.length = g.h
  ok : ∀ w ∈ ws, 1 ≤ w.length ∧ w.length ≤ 8
def hOf : D → Int
  | .tuple (.int h :: _) => h
  | _ => 0
theorem hOf_eN (g : Nt) : hOf (eN g) = (g.h : Int) := rfl
theorem ws_of {h : Int} {dw : D} (a : areW h dw = true) : ∃ ws : List Wt, dw = eWs ws ∧ (ws.length : Int) = h ∧ ∀ w ∈ ws, 1 ≤ w.length ∧ w.length ≤ 8 := by
  cases dw with
  | tuple ds =>
    simp only [areW, Bool.and_eq_true, decide_eq_true_eq, List.all_eq_true] at a
    obtain ⟨h1, h2⟩ := a
    refine ⟨ds.map unW, ?_, by rw [List.length_map]; exact h1, fun w hw => ?_⟩
    · unfold eWs
      rw [List.map_map]
      congr 1
      exact (List.map_id'' (fun _ => rfl) ds).symm.trans (List.map_congr_left fun x hx => (watch_of (h2 x hx)).1)
    · obtain ⟨x, hx, rfl⟩ := List.mem_map.mp hw
      exact (watch_of (h2 x hx)).2
  | _ => cases a
theorem good_w {d dw : D} (h1 : isNetD d = true) (h2 : areW (hOf d) dw = true) : ∃ g ws, GoodW d dw g ws := by
  obtain ⟨g, rfl, G⟩ := net_of h1
  obtain ⟨ws, rfl, l, ok⟩ := ws_of h2
  rw [hOf_eN] at l
  exact ⟨g, ws, rfl, G, rfl, by omega, ok⟩
theorem areW_good {g : Nt} {ws : List Wt} (l : ws.length = g.h) (ok : ∀ w ∈ ws, 1 ≤ w.length ∧ w.length ≤ 8) : areW (g.h : Int) (eWs ws) = true := by
  show (decide ((((ws.map eW).length : Nat) : Int) = (g.h : Nat)) && (ws.map eW).all isWatchD) = true
  simp only [List.length_map, Bool.and_eq_true, decide_eq_true_eq, List.all_map, List.all_eq_true]
  exact ⟨by omega, fun w hw => isWatch_eW (ok w hw).1 (ok w hw).2⟩
/-- the refusals -/
def kW (d dw : D) (r : Res) : Res := if isNetD d then (if areW (hOf d) dw then r else .exc "watches") else .exc "net"
def kI (a b : Int) (d : D) (nm : Str) (r : Res) : Res := if inI a b d then r else .exc nm
theorem kW_good {d dw : D} {r : Res} (h1 : isNetD d = true) (h2 : areW (hOf d) dw = true) : kW d dw r = r := by
  unfold kW
  rw [if_pos h1, if_pos h2]
theorem kI_good {a b : Int} {d : D} {nm : Str} {r : Res} (h : inI a b d = true) : kI a b d nm r = r := if_pos h
theorem kW_d {d dw : D} {x : D} (h : kW d dw (.d .none) = .d x) : isNetD d = true ∧ areW (hOf d) dw = true := by
  unfold kW at h
  split at h
  · rename_i h1
    split at h
    · rename_i h2
      exact ⟨h1, h2⟩
    · cases h
  · cases h
theorem kI_d {a b : Int} {d : D} {nm : Str} {x : D} (h : kI a b d nm (.d .none) = .d x) : inI a b d = true := by
  unfold kI at h
  split at h
  · assumption
  · cases h
theorem kW_or {d dw : D} : (∃ x, kW d dw (.d .none) = .d x) ∨ ∃ n, kW d dw (.d .none) = .exc n := by
  unfold kW
  split
  · split
    · exact .inl ⟨_, rfl⟩
    · exact .inr ⟨_, rfl⟩
  · exact .inr ⟨_, rfl⟩
theorem kI_or {a b : Int} {d : D} {nm : Str} : (∃ x, kI a b d nm (.d .none) = .d x) ∨ ∃ n, kI a b d nm (.d .none) = .exc n := by
  unfold kI
  split
  · exact .inl ⟨_, rfl⟩
  · exact .inr ⟨_, rfl⟩
theorem wx_kW {c : Cfg} {C : Addr} {E : XK} {d dw : D} {r : Res} (h : Wx c C E (kW d dw r)) : Wx c C E (kW d dw (.d .none)) := by
  unfold kW at h ⊢
  split
  · rename_i h1
    rw [if_pos h1] at h
    split
    · exact fun n hn => by cases hn
    · rename_i h2
      rw [if_neg h2] at h
      exact h
  · rename_i h1
    rw [if_neg h1] at h
    exact h
theorem wx_kI {c : Cfg} {C : Addr} {E : XK} {a b : Int} {d : D} {nm : Str} {r : Res} (h : Wx c C E (kI a b d nm r)) : Wx c C E (kI a b d nm (.d .none)) := by
  unfold kI at h ⊢
  split
  · exact fun n hn => by cases hn
  · rename_i h1
    rw [if_neg h1] at h
    exact h
section
variable {e : En}
def rIsWatch (ds : List D) (r : Res) : Prop := ∃ d, ds = [d] ∧ r = .d (.bool (isWatchD d))
theorem cal_isWatch (T : Top e) : e.Cal CX0 2 "is_watch" ["value"] rIsWatch := by
  refine T.isWatch.cal (okN (N := ["value", "one"]) ⟨rfl, rfl, rfl, by decide +kernel, rfl, by decide +kernel, by decide +kernel⟩ (by rintro ds r ⟨d, rfl, rfl⟩; rfl) ?_) fun _ _ _ _ _ _ us hl => match us, hl with | [_], _ => rfl
  rintro f A outer s H E F ds r Q hr ⟨d, rfl, rfl⟩ hq
  have nd : (["value", "one"] : List Str).Nodup := by decide +kernel
  refine ws_cons (w_if (k := !isTupD d || wt2 d) (EW.et ?_) (fun hk => ?_) (fun hk => ws_nil ?_))
  · refine ew_or (et_not (et_val (ed_isi (d := d) (T := "tuple") (ed_name 0 rfl) (kit_tup _) T.bIsinstance T.bTuple))) fun hz => ?_
    cases d with
    | tuple ds => exact ew_or1 (et_not (et_chain (i := 1) (j := ds.length) (m := 8) op_le op_le ed_int (ed_len (ed_name 0 rfl).tq T.bLen) fun _ => glob_int T.nMostRow))
    | _ => cases hz
  · have e0 : isWatchD d = false := by
      cases d with
      | tuple ds =>
        have : (!(decide ((1 : Int) ≤ ds.length) && decide ((ds.length : Int) ≤ 8))) = true := hk
        simp only [isWatchD]
        cases hb : (decide ((1 : Int) ≤ ds.length) && decide ((ds.length : Int) ≤ 8)) with
        | false => rfl
        | true => rw [hb] at this; cases this
      | _ => rfl
    rw [e0] at hq
    exact ws_one (w_ret ed_bl hq)
  · cases d with
    | tuple ds =>
      have h2 : (decide ((1 : Int) ≤ ds.length) && decide ((ds.length : Int) ≤ 8)) = true := by
        have : (!(decide ((1 : Int) ≤ ds.length) && decide ((ds.length : Int) ≤ 8))) = false := hk
        cases hb : (decide ((1 : Int) ≤ ds.length) && decide ((ds.length : Int) ≤ 8)) with
        | true => rfl
        | false => rw [hb] at this; cases this
      have e0 : isWatchD (.tuple ds) = ds.all isBoolD := by
        simp only [isWatchD]
        rw [h2, Bool.true_and]
      rw [e0] at hq
      show WS _ _ _ _ _
      exact ws_one (w_ret (ed_allG (own := [("one", 1)]) (cc := (e.ct "is_watch").1) (P := (e.ct "is_watch").2) nd (blkOk_by (N := ["value", "one"]) (sc := defScope stIsWatch) (by decide +kernel)) (T.tabs _ (by decide +kernel)) rfl (T.gens _ (by decide +kernel)).1 (T.gens _ (by decide +kernel)).2 hr (ei_tup (ed_name 0 rfl))
        (fun x hx A' s H L code fp => eg_name 1 nd) (fun x hx A' s H L code fp r => ed_isi (d := x) (T := "bool") (ed_name 1 rfl) (kit_bool x) T.bIsinstance T.bBool) T.bAll) hq)
    | _ => cases hk
def rAreWatches (ds : List D) (r : Res) : Prop := ∃ (g : Nt) (d : D), ds = [eN g, d] ∧ r = .d (.bool (areW g.h d))
theorem cal_areWatches (T : Top e) : e.Cal CX0 4 "are_watches" ["net", "value"] rAreWatches := by
  refine T.areWatches.cal (okN (N := ["net", "value", "one"]) ⟨rfl, rfl, rfl, by decide +kernel, rfl, by decide +kernel, by decide +kernel⟩ (by rintro ds r ⟨g, d, rfl, rfl⟩; rfl) ?_) fun _ _ _ _ _ _ us hl => match us, hl with | [_, _], _ => rfl
  rintro f A outer s H E F ds r Q hr ⟨g, d, rfl, rfl⟩ hq
  have nd : (["net", "value", "one"] : List Str).Nodup := by decide +kernel
  have ek : areW g.h d = (isTupD d && areW g.h d) := by cases d <;> rfl
  rw [ek] at hq
  refine ws_one (w_ret (ed_and (ed_isi (d := d) (T := "tuple") (ed_name 1 rfl) (kit_tup _) T.bIsinstance T.bTuple) fun hz => ?_) hq)
  cases d with
  | tuple ds =>
    show ED _ _ _ _ (.bool (decide ((ds.length : Int) = (g.h : Nat)) && ds.all isWatchD))
    refine ed_and (edC (ec_eq (e1 := .int ds.length) (e2 := nD g.h) (ed_len (ed_name 1 rfl).tq T.bLen) (ed_ix (ED.tq (ed_name 0 rfl)) ed_int net0) rfl).ed (by rw [nD, eqF_int])) fun _ => ed_one ?_
    exact ed_allG (own := [("one", 2)]) (cc := (e.ct "are_watches").1) (P := (e.ct "are_watches").2) nd (blkOk_by (N := ["net", "value", "one"]) (sc := defScope stAreWatches) (by decide +kernel)) (T.tabs _ (by decide +kernel)) rfl (T.gens _ (by decide +kernel)).1 (T.gens _ (by decide +kernel)).2 hr (ei_tup (ed_name 1 rfl))
        (fun x hx A' s H L code fp => eg_name 2 nd) (fun x hx A' s H L code fp r => ed_call (cal_isWatch T) pass0 r (ea_cons (ed_name 2 rfl) ea_nil) ⟨_, rfl, rfl⟩) T.bAll
  | _ => cases hz
def rNeedWatches (ds : List D) (r : Res) : Prop := ∃ d dw, ds = [d, dw] ∧ fewD d = true ∧ r = kW d dw (.d .none)
theorem cal_needWatches (T : Top e) : e.Cal e.CX 7 "need_watches" ["net", "watches"] rNeedWatches := by
  refine T.needWatches.cal (okR (N := ["net", "watches"]) ⟨rfl, rfl, rfl, by decide +kernel, rfl, by decide +kernel, by decide +kernel⟩ (by rintro ds r ⟨d, dw, rfl, _, rfl⟩; rfl) ?_) fun _ _ _ _ _ _ us hl => match us, hl with | [_, _], _ => rfl
  rintro f A outer s H E F ds r Q hr ⟨d, dw, rfl, hfew, rfl⟩ hq hx
  have tk : Takes (e.cxR ["net", "watches"] "need_watches" stNeedWatches f A outer s H E) (fun cls d _ H => E cls d H) := takes_of rfl rfl rfl rfl
  unfold kW at hq hx
  refine ws_cons (w_callX (r := if isNetD d then .d .none else .exc "net") (cal_needNet T) tk hr (ea_cons (ed_name 0 rfl) (ea_cons ed_str ea_nil)) ⟨_, _, rfl, by decide +kernel, hfew, rfl⟩ (fun d2 hd => ?_) (fun n hn => ?_) ?_)
  · cases hz : isNetD d with
    | false => rw [hz] at hd; cases hd
    | true =>
      rw [hz] at hq hx
      obtain ⟨g, rfl, G⟩ := net_of hz
      refine ws_one (w_if (k := !areW g.h dw) (et_not (et_val (ed_call (cal_areWatches T) pass0 (hr.mono (by decide)) (ea_cons (ed_name 0 rfl) (ea_cons (ed_name 1 rfl) ea_nil)) ⟨_, _, rfl, rfl⟩))) (fun hk => ?_) (fun hk => ws_nil ?_))
      · have hk' : areW (hOf (eN g)) dw = false := by rw [hOf_eN]; simpa using hk
        rw [hk'] at hx
        exact ws_one (w_raise T.bad rfl tk hr ed_str (by decide +kernel) hx)
      · have hk' : areW (hOf (eN g)) dw = true := by rw [hOf_eN]; simpa using hk
        rw [hk'] at hq
        exact fun F' H' σ S => hq .non F' H' S.base .non
  · cases hz : isNetD d with
    | true => rw [hz] at hn; cases hn
    | false =>
      rw [hz] at hn hx
      exact hx n hn
  · cases isNetD d with
    | true => exact .inl ⟨_, rfl⟩
    | false => exact .inr ⟨_, rfl⟩
end
end Fs

set_option Elab.async false
set_option linter.all false
set_option maxRecDepth 100000
set_option maxHeartbeats 4000000
/-! Firesseen: turns, arrivals, plain. -/
namespace Fs
open PySem PySem.Spec L2
/-- a number or None -/
def oN : Option Nat → D
  | none => .none
  | some i => nD i
theorem isN_oN (o : Option Nat) : isN (oN o) = o.isNone := by cases o <;> rfl
theorem scal_oN (a b : Option Nat) : scalD (oN a) (oN b) = true := by cases a <;> cases b <;> rfl
theorem eqF_oN (a b : Option Nat) : eqF (oN a) (oN b) = decide (a = b) := by
  cases a with
  | none => cases b <;> simp [oN, eqF, nD]
  | some a => cases b with
    | none => simp [oN, eqF, nD]
    | some b =>
      show eqF (nD a) (nD b) = _
      unfold nD
      rw [eqF_int]
      refine decide_eq_decide.mpr ?_
      rw [Option.some.injEq]
      exact Int.ofNat_inj
theorem oN_inj {a b : Option Nat} (h : oN a = oN b) : a = b := by
  cases a <;> cases b <;> simp [oN, nD] at h ⊢
  exact Int.ofNat.inj h
/-! the turn -/
def tStp (t l : Nat) : Nat := t / Nat.gcd t l * l
def turnL (ws : List Wt) : Nat := ws.foldl (fun t w => tStp t w.length) 1
theorem tStp_lcm (t l : Nat) : tStp t l = Nat.lcm t l := by
  unfold tStp
  rw [Nat.lcm, Nat.mul_comm t l, Nat.mul_div_assoc l (Nat.gcd_dvd_left t l), Nat.mul_comm]
theorem dvd840 {l : Nat} (h1 : 1 ≤ l) (h8 : l ≤ 8) : l ∣ 840 := by
  have : l = 1 ∨ l = 2 ∨ l = 3 ∨ l = 4 ∨ l = 5 ∨ l = 6 ∨ l = 7 ∨ l = 8 := by omega
  rcases this with rfl | rfl | rfl | rfl | rfl | rfl | rfl | rfl <;> decide
theorem turn_dvd : ∀ (ws : List Wt) (t : Nat), t ∣ 840 → (∀ w ∈ ws, 1 ≤ w.length ∧ w.length ≤ 8) → ws.foldl (fun t w => tStp t w.length) t ∣ 840
  | [], _, h, _ => h
  | w :: r, t, h, hw => turn_dvd r _ (by
      show tStp t w.length ∣ 840
      rw [tStp_lcm]
      exact Nat.lcm_dvd h (dvd840 (hw w List.mem_cons_self).1 (hw w List.mem_cons_self).2)) fun x hx => hw x (List.mem_cons_of_mem _ hx)
theorem pos_of_dvd {a b : Nat} (h : a ∣ b) (hb : 0 < b) : 0 < a := Nat.pos_of_dvd_of_pos h hb
/-! the first step awake -/
def awk (w : Wt) (k : Nat) : Bool := w.getD (k % w.length) false
def awake (w : Wt) (s : Nat) : Option Nat := ((List.range w.length).find? fun k => awk w (s + k)).map (s + ·)
def minL : List Nat → Nat
  | [] => 0
  | [a] => a
  | a :: r => min a (minL r)
theorem minL_mem : ∀ {l : List Nat}, l ≠ [] → minL l ∈ l
  | [], h => absurd rfl h
  | [a], _ => List.mem_cons_self
  | a :: b :: r, _ => by
    have ih := minL_mem (l := b :: r) (by simp)
    show min a (minL (b :: r)) ∈ a :: b :: r
    rcases Nat.le_total a (minL (b :: r)) with h | h
    · rw [Nat.min_eq_left h]; exact List.mem_cons_self
    · rw [Nat.min_eq_right h]; exact List.mem_cons_of_mem _ ih
theorem minL_le : ∀ {l : List Nat} {x : Nat}, x ∈ l → minL l ≤ x
  | [a], x, h => by
    rw [List.mem_singleton.mp h]
    exact Nat.le_refl _
  | a :: b :: r, x, h => by
    show min a (minL (b :: r)) ≤ x
    rcases List.mem_cons.mp h with rfl | h
    · exact Nat.min_le_left _ _
    · exact Nat.le_trans (Nat.min_le_right _ _) (minL_le h)
def seenL (g : Nt) (f : List (Option Nat)) (h : Nat) : List Nat := (bes g h).filterMap fun o => f.getD o none
def newV (o : Option Nat) (x : Nat) : Nat := match o with
  | none => x
  | some y => min y x
/-- one hill -/
def relax (g : Nt) (ws : List Wt) (src : Nat) (f : List (Option Nat)) (h : Nat) : List (Option Nat) :=
  if h ≠ src ∧ 0 < (seenL g f h).length then (match awake (ws.getD h []) (minL (seenL g f h)) with
    | none => f
    | some s => f.set h (some (newV (f.getD h none) (s + 1)))) else f
def roundL (g : Nt) (ws : List Wt) (src : Nat) (f : List (Option Nat)) : List (Option Nat) := (List.range g.h).foldl (relax g ws src) f
def init (g : Nt) (src start : Nat) : List (Option Nat) := (List.replicate g.h none).set src (some start)
def arrL (g : Nt) (ws : List Wt) (src start : Nat) : List (Option Nat) := (List.range g.h).foldl (fun f _ => roundL g ws src f) (init g src start)
theorem relax_len (g : Nt) (ws : List Wt) (src h : Nat) (f : List (Option Nat)) : (relax g ws src f h).length = f.length := by
  unfold relax
  split
  · split
    · rfl
    · rw [List.length_set]
  · rfl
theorem foldl_len {α : Type} {F : List (Option Nat) → α → List (Option Nat)} (h : ∀ f a, (F f a).length = f.length) : ∀ (l : List α) (f : List (Option Nat)), (l.foldl F f).length = f.length
  | [], _ => rfl
  | a :: l, f => by rw [List.foldl_cons, foldl_len h l, h]
theorem round_len (g : Nt) (ws : List Wt) (src : Nat) (f : List (Option Nat)) : (roundL g ws src f).length = f.length := foldl_len (fun f h => relax_len g ws src h f) _ _
theorem init_len (g : Nt) (src start : Nat) : (init g src start).length = g.h := by
  unfold init
  rw [List.length_set, List.length_replicate]
theorem arr_len (g : Nt) (ws : List Wt) (src start : Nat) : (arrL g ws src start).length = g.h := by
  unfold arrL
  rw [foldl_len (fun f _ => round_len g ws src f), init_len]
theorem range_take {n i : Nat} (h : i < n) : (List.range n).take (i + 1) = (List.range n).take i ++ [i] := by
  rw [← List.take_append_getElem (by rw [List.length_range]; exact h), List.getElem_range]
theorem fold_step {α : Type} {F : α → Nat → α} {a : α} {n i : Nat} (h : i < n) : ((List.range n).take (i + 1)).foldl F a = F (((List.range n).take i).foldl F a) i := by
  rw [range_take h, List.foldl_append]
  rfl
theorem fold_full {α : Type} {F : α → Nat → α} {a : α} {n : Nat} : ((List.range n).take n).foldl F a = (List.range n).foldl F a := by
  rw [List.take_of_length_le (by rw [List.length_range]; exact Nat.le_refl _)]
end Fs

set_option Elab.async false
set_option linter.all false
set_option maxRecDepth 100000
set_option maxHeartbeats 4000000
/-! Firesseen: turn_of, awake_from, arrivals_of. -/
namespace Fs
open PySem PySem.Spec L2
section
variable {e : En}
def rTurn (ds : List D) (r : Res) : Prop := ∃ ws : List Wt, (∀ w ∈ ws, 1 ≤ w.length ∧ w.length ≤ 8) ∧ ds = [eWs ws] ∧ r = .d (nD (turnL ws))
abbrev NTu : List Str := ["watches", "found", "watch", "one", "other"]
theorem cal_turn (T : Top e) : e.Cal CX0 1 "turn_of" ["watches"] rTurn := by
  refine T.turnOf.cal (okN (N := NTu) ⟨rfl, rfl, rfl, by decide +kernel, rfl, by decide +kernel, by decide +kernel⟩ (by rintro ds r ⟨ws, _, rfl, rfl⟩; rfl) ?_) fun _ _ _ _ _ _ us hl => match us, hl with | [_], _ => rfl
  rintro f A outer s H E F ds r Q hr ⟨ws, hws, rfl, rfl⟩ hq
  have nd : NTu.Nodup := by decide +kernel
  have td : ∀ i, (ws.take i).foldl (fun t w => tStp t w.length) 1 ∣ 840 := fun i => turn_dvd _ 1 (by decide) fun w hw => hws w (List.mem_of_mem_take hw)
  refine ws_cons (w_set 1 (d := nD 1) nd ed_int ?_)
  refine ws_cons (w_for .never rfl (ei_tup (ed_name 0 rfl)) (fun i δ => ∃ a b c, δ = [.d (eWs ws), .d (nD ((ws.take i).foldl (fun t w => tStp t w.length) 1)), a, b, c] ∧ a = .un ∧ b = .un ∧ c = .un) ⟨_, _, _, rfl, rfl, rfl, rfl⟩ ?_ ?_)
  · rintro i y δ1 hy ⟨_, _, _, rfl, rfl, rfl, rfl⟩ Fp hFp
    obtain ⟨w, hw, rfl⟩ := map_get hy
    have hwm := hws w (List.mem_of_getElem? hw)
    have ht := td i
    have hst : (ws.take (i + 1)).foldl (fun t w => tStp t w.length) 1 = tStp ((ws.take i).foldl (fun t w => tStp t w.length) 1) w.length := by
      obtain ⟨hi, e1⟩ := List.getElem?_eq_some_iff.mp hw
      rw [← List.take_append_getElem hi, List.foldl_append, e1]
      rfl
    have ht1 := td (i + 1)
    rw [hst] at ht1
    generalize (ws.take i).foldl (fun t w => tStp t w.length) 1 = t at ht hst ht1
    have t0 := pos_of_dvd ht (by decide)
    have t1 := Nat.le_of_dvd (by decide) ht
    have t2 := Nat.le_of_dvd (by decide) ht1
    refine ⟨_, _, eg_name 2 nd, ?_⟩
    refine ws_cons (w_set 3 (d := nD t) nd (ed_name 1 rfl) ?_)
    refine ws_cons (w_set 4 (d := nD w.length) nd (edC (ed_len (ED.tq (ed_name 2 rfl)) T.bLen) (by rw [List.length_map]; rfl)) ?_)
    refine ws_cons (w_while .never (fun m δ => ∃ a b, a ≤ 840 ∧ b ≤ 840 ∧ (0 < a ∨ 0 < b) ∧ Nat.gcd a b = Nat.gcd t w.length ∧ m = b ∧ δ = [.d (eWs ws), .d (nD t), .d (eW w), .d (nD a), .d (nD b)]) w.length ⟨t, w.length, t1, by omega, .inl t0, rfl, rfl, rfl⟩ ?_)
    rintro m δ2 ⟨a, b, ha, hb, hab, hg, rfl, rfl⟩
    refine ⟨_, (ec_gt (ed_name 4 rfl) ed_int).et, fun hk => ?_, fun hk => ?_⟩
    · have hb0 : 0 < m := by have := of_decide_eq_true hk; omega
      refine ws_one (w_par2 3 4 nd rfl (EA.mm (ea_cons (ed_name 4 rfl) (ea_cons (ed_mod (ed_name 3 rfl) (ed_name 4 rfl) (by omega)) ea_nil)) ⟨_, _, rfl, ?_⟩))
      have hlt := Nat.mod_lt a hb0
      exact nx_again (m' := a % m) (I := fun m δ => ∃ a b, a ≤ 840 ∧ b ≤ 840 ∧ (0 < a ∨ 0 < b) ∧ Nat.gcd a b = Nat.gcd t w.length ∧ m = b ∧ δ = [.d (eWs ws), .d (nD t), .d (eW w), .d (nD a), .d (nD b)]) hlt ⟨m, a % m, hb, by omega, .inl hb0, by rw [← hg, Nat.gcd_comm a m, Nat.gcd_rec m a, Nat.gcd_comm], rfl, rfl⟩
    · have hb0 : m = 0 := by have := of_decide_eq_false hk; omega
      subst hb0
      rw [Nat.gcd_zero_right] at hg
      show WS _ _ _ _ _
      have hga : 0 < a := by omega
      have hdiv : t / a ≤ 840 := Nat.le_trans (Nat.div_le_self _ _) t1
      have e9 : (t : Int) / (a : Int) * (w.length : Int) = ((t / a * w.length : Nat) : Int) := by
        rw [Int.natCast_mul, Int.natCast_ediv]
      refine ws_one (w_set 1 (d := nD (tStp t w.length)) nd (edC (ed_mul (ed_fdiv (ed_name 1 rfl) (ed_name 3 rfl) ⟨by omega, by omega⟩) (ed_len (ED.tq (ed_name 2 rfl)) T.bLen) ?_) ?_) ?_)
      · right
        rw [List.length_map]
        constructor <;> omega
      · rw [List.length_map, e9]
        unfold tStp
        rw [← hg]
        rfl
      · rw [← hst]
        exact (nx_next (I := fun i δ => ∃ a b c, δ = [.d (eWs ws), .d (nD ((ws.take i).foldl (fun t w => tStp t w.length) 1)), a, b, c] ∧ a = .un ∧ b = .un ∧ c = .un) ⟨_, _, _, rfl, rfl, rfl, rfl⟩).wk
  · rintro δ1 ⟨_, _, _, rfl, rfl, rfl, rfl⟩
    rw [List.length_map, List.take_length]
    show WS _ _ _ _ _
    exact ws_one (w_ret (ed_name 1 rfl) hq)
def rAwake (ds : List D) (r : Res) : Prop := ∃ (w : Wt) (s : Nat), 1 ≤ w.length ∧ w.length ≤ 8 ∧ s ≤ 2000000000000 ∧ ds = [eW w, nD s] ∧ r = .d (oN (awake w s))
theorem awake_some {w : Wt} {s k : Nat} (hk : k < w.length) (h : awk w (s + k) = true) (hn : ∀ j, j < k → awk w (s + j) = false) : awake w s = some (s + k) := by
  unfold awake
  have : (List.range w.length).find? (fun k => awk w (s + k)) = some k := by
    rw [List.find?_range_eq_some]
    exact ⟨h, List.mem_range.mpr hk, fun j hj => by rw [hn j hj]; rfl⟩
  rw [this]
  rfl
theorem awake_none {w : Wt} {s : Nat} (hn : ∀ j, j < w.length → awk w (s + j) = false) : awake w s = none := by
  unfold awake
  have : (List.range w.length).find? (fun k => awk w (s + k)) = none := by
    rw [List.find?_eq_none]
    intro x hx
    rw [hn x (List.mem_range.mp hx)]
    exact Bool.false_ne_true
  rw [this]
  rfl
abbrev NAw : List Str := ["watch", "step", "later"]
theorem cal_awake (T : Top e) : e.Cal CX0 1 "awake_from" ["watch", "step"] rAwake := by
  refine T.awakeFrom.cal (okN (N := NAw) ⟨rfl, rfl, rfl, by decide +kernel, rfl, by decide +kernel, by decide +kernel⟩ (by rintro ds r ⟨w, s, _, _, _, rfl, rfl⟩; rfl) ?_) fun _ _ _ _ _ _ us hl => match us, hl with | [_, _], _ => rfl
  rintro f A outer s H E F ds r Q hr ⟨w, st, h1, h8, hs, rfl, rfl⟩ hq
  have nd : NAw.Nodup := by decide +kernel
  have lm : (w.map PyData.bool).length = w.length := List.length_map _
  refine ws_cons (w_for .never rfl (ei_range2 (ed_name 1 rfl) (ed_add (ed_name 1 rfl) (ed_len (ED.tq (ed_name 0 rfl)) T.bLen)) (by constructor <;> omega) (by rw [lm]; constructor <;> omega) T.bRange) (fun i δ => (∀ j, j < i → awk w (st + j) = false) ∧ ∃ a, δ = [.d (eW w), .d (nD st), a] ∧ a = .un) ⟨fun j hj => absurd hj (Nat.not_lt_zero _), _, rfl, rfl⟩ ?_ ?_)
  · rintro i y δ1 hy ⟨hn, _, rfl, rfl⟩ Fp hFp
    obtain ⟨hi, rfl⟩ := rngD_get hy
    rw [lm] at hi
    have hi : i < w.length := by omega
    refine ⟨_, _, eg_name 2 nd, ?_⟩
    have hm : (st + i) % w.length < w.length := Nat.mod_lt _ (by omega)
    have hat : atI (w.map PyData.bool) (((st : Int) + (i : Nat)) % ((w.map PyData.bool).length : Nat)) = some (.bool (awk w (st + i))) := by
      rw [lm, show ((st : Int) + (i : Nat)) % (w.length : Nat) = (((st + i) % w.length : Nat) : Int) by rw [Int.natCast_emod, Int.natCast_add]]
      refine atI_nat ?_
      rw [List.getElem?_map]
      unfold awk
      rw [List.getD_eq_getElem?_getD, List.getElem?_eq_getElem hm]
      rfl
    refine ws_one (w_if (k := awk w (st + i)) (et_val (ed_ix (ED.tq (ed_name 0 rfl)) (ed_mod (ed_name 2 rfl) (ed_len (ED.tq (ed_name 0 rfl)) T.bLen) (by rw [lm]; omega)) hat)) (fun hk => ?_) (fun hk => ws_nil ?_))
    · rw [awake_some hi hk hn] at hq
      exact ws_one (w_ret (edC (ed_name 2 rfl) (by show _ = PyData.int ((st + i : Nat) : Int); rw [Int.natCast_add])) hq)
    · refine (nx_next (I := fun i δ => (∀ j, j < i → awk w (st + j) = false) ∧ ∃ a, δ = [.d (eW w), .d (nD st), a] ∧ a = .un) ⟨fun j hj => ?_, _, rfl, rfl⟩).wk
      rcases Nat.lt_succ_iff_lt_or_eq.mp hj with h | h
      · exact hn j h
      · rw [h]; exact hk
  · rintro δ1 ⟨hn, _, rfl, rfl⟩
    rw [rng_len, lm] at hn
    rw [awake_none (fun j hj => hn j (by omega))] at hq
    show WS _ _ _ _ _
    exact ws_one (w_ret ed_non hq)
/-- the arrivals, as far as they are told -/
def rArrOf (ds : List D) (r : Res) : Prop := ∃ (g : Nt) (ws : List Wt) (src st : Nat), g.Ok ∧ ws.length = g.h ∧ (∀ w ∈ ws, 1 ≤ w.length ∧ w.length ≤ 8) ∧ src < g.h ∧ st ≤ 1000000000000 ∧ ds = [eN g, eWs ws, nD src, nD st] ∧ r = .l ((arrL g ws src st).map oN)
end
end Fs

set_option Elab.async false
set_option linter.all false
set_option maxRecDepth 100000
set_option maxHeartbeats 4000000
/-! Firesseen: arrivals_of. -/
namespace Fs
open PySem PySem.Spec L2
def Bd (f : List (Option Nat)) (B : Nat) : Prop := ∀ (i v : Nat), f.getD i none = some v → v ≤ B
theorem awake_bd {w : Wt} {s t : Nat} (h : awake w s = some t) : s ≤ t ∧ t < s + w.length := by
  unfold awake at h
  cases hf : (List.range w.length).find? (fun k => awk w (s + k)) with
  | none => rw [hf] at h; cases h
  | some k =>
    rw [hf] at h
    have hk := List.mem_range.mp (List.mem_of_find?_eq_some hf)
    have : s + k = t := Option.some.inj h
    omega
theorem getD_set {f : List (Option Nat)} {i j : Nat} {x : Option Nat} : (f.set i x).getD j none = if i = j ∧ i < f.length then x else f.getD j none := by
  rw [List.getD_eq_getElem?_getD, List.getD_eq_getElem?_getD, List.getElem?_set]
  by_cases h : i = j
  · subst h
    by_cases h2 : i < f.length
    · simp [h2]
    · simp [h2]
  · simp [h]
theorem seen_mem {g : Nt} {f : List (Option Nat)} {h x : Nat} : x ∈ seenL g f h ↔ ∃ o ∈ bes g h, f.getD o none = some x := by
  unfold seenL
  rw [List.mem_filterMap]
theorem newV_le (o : Option Nat) (x : Nat) : newV o x ≤ x := by
  cases o with
  | none => exact Nat.le_refl _
  | some y => exact Nat.min_le_right _ _
theorem wsl {ws : List Wt} (hw : ∀ w ∈ ws, 1 ≤ w.length ∧ w.length ≤ 8) (h : Nat) : (ws.getD h []).length ≤ 8 := by
  rw [List.getD_eq_getElem?_getD]
  cases e : ws[h]? with
  | none => exact Nat.zero_le _
  | some w => exact (hw w (List.mem_of_getElem? e)).2
theorem relax_bd {g : Nt} {ws : List Wt} {src h B : Nat} {f : List (Option Nat)} (hw : ∀ w ∈ ws, 1 ≤ w.length ∧ w.length ≤ 8) (hB : Bd f B) : Bd (relax g ws src f h) (B + 8) := by
  have weak : Bd f (B + 8) := fun i v e => Nat.le_trans (hB i v e) (by omega)
  unfold relax
  split
  · rename_i hc
    have hne : seenL g f h ≠ [] := fun z => by rw [z] at hc; exact absurd hc.2 (Nat.lt_irrefl _)
    obtain ⟨o, _, ho⟩ := seen_mem.mp (minL_mem hne)
    have hm := hB _ _ ho
    split
    · exact weak
    · rename_i s hs
      have := awake_bd hs
      have := wsl hw h
      have := newV_le (f.getD h none) (s + 1)
      intro i v e
      rw [getD_set] at e
      split at e
      · have := Option.some.inj e
        omega
      · exact weak i v e
  · exact weak
theorem part_bd {g : Nt} {ws : List Wt} {src B : Nat} (hw : ∀ w ∈ ws, 1 ≤ w.length ∧ w.length ≤ 8) : ∀ (i : Nat) (f : List (Option Nat)), i ≤ g.h → Bd f B → Bd (((List.range g.h).take i).foldl (relax g ws src) f) (B + 8 * i)
  | 0, f, _, h => by simpa using h
  | i + 1, f, hi, h => by
    rw [fold_step (by omega)]
    have := relax_bd (g := g) (src := src) (h := i) hw (part_bd (g := g) (src := src) hw i f (by omega) h)
    rw [show B + 8 * (i + 1) = B + 8 * i + 8 by omega]
    exact this
theorem round_bd {g : Nt} {ws : List Wt} {src B : Nat} {f : List (Option Nat)} (hw : ∀ w ∈ ws, 1 ≤ w.length ∧ w.length ≤ 8) (h : Bd f B) : Bd (roundL g ws src f) (B + 8 * g.h) := by
  have := part_bd (g := g) (src := src) hw g.h f (Nat.le_refl _) h
  rw [fold_full] at this
  exact this
theorem rounds_bd {g : Nt} {ws : List Wt} {src B : Nat} (hw : ∀ w ∈ ws, 1 ≤ w.length ∧ w.length ≤ 8) : ∀ (i : Nat) (f : List (Option Nat)), i ≤ g.h → Bd f B → Bd (((List.range g.h).take i).foldl (fun f _ => roundL g ws src f) f) (B + 8 * g.h * i)
  | 0, f, _, h => by simpa using h
  | i + 1, f, hi, h => by
    rw [fold_step (F := fun f _ => roundL g ws src f) (by omega)]
    have := round_bd (g := g) (src := src) hw (rounds_bd (g := g) (src := src) hw i f (by omega) h)
    rw [show B + 8 * g.h * (i + 1) = B + 8 * g.h * i + 8 * g.h by rw [Nat.mul_succ]; omega]
    exact this
theorem init_bd {g : Nt} {src st : Nat} : Bd (init g src st) st := by
  intro i v e
  unfold init at e
  rw [getD_set] at e
  split at e
  · have := Option.some.inj e
    omega
  · rw [List.getD_eq_getElem?_getD, List.getElem?_replicate] at e
    split at e <;> simp at e
theorem rep_none (n : Nat) : (List.replicate n [PyData.none]).flatten = (List.replicate n (none : Option Nat)).map oN := by
  induction n with
  | zero => rfl
  | succ n ih =>
    rw [List.replicate_succ, List.flatten_cons, ih, List.replicate_succ]
    rfl
theorem oN_at {f : List (Option Nat)} {i : Nat} (h : i < f.length) : atI (f.map oN) (i : Nat) = some (oN (f.getD i none)) := by
  refine atI_nat ?_
  rw [List.getElem?_map, List.getD_eq_getElem?_getD, List.getElem?_eq_getElem h]
  rfl
theorem eW_at {ws : List Wt} {i : Nat} (h : i < ws.length) : atI (ws.map eW) (i : Nat) = some (eW (ws.getD i [])) := by
  refine atI_nat ?_
  rw [List.getElem?_map, List.getD_eq_getElem?_getD, List.getElem?_eq_getElem h]
  rfl
theorem ixN_nat {n i : Nat} (h : i < n) : ixN n (i : Nat) = some i := by
  unfold ixN
  simp [h]
def natD : D → Nat
  | .int i => i.toNat
  | _ => 0
theorem natD_nD (n : Nat) : natD (nD n) = n := rfl
theorem seen_lc (g : Nt) (f : List (Option Nat)) (h : Nat) : lcD (fun x => !isN (oN (f.getD (natD x) none))) (fun x => oN (f.getD (natD x) none)) ((bes g h).map nD) = (seenL g f h).map nD := by
  rw [lc_fmap nD _ _ (fun o => (f.getD o none).isSome) (fun o => oN (f.getD o none)) (fun o => by rw [natD_nD, isN_oN]; cases f.getD o none <;> rfl) (fun o => by rw [natD_nD])]
  unfold seenL
  induction bes g h with
  | nil => rfl
  | cons a l ih =>
    rw [List.filter_cons, List.filterMap_cons]
    cases e : f.getD a none with
    | none => exact ih
    | some v =>
      show oN (f.getD a none) :: List.map _ (List.filter _ l) = nD v :: List.map nD (List.filterMap _ l)
      rw [ih, e]
      rfl
theorem ET.castW {X : Cx} {c : Cfg} {δ : List Sd} {e : Expr} {d d' : Bool} (h : EW X c δ e d) (q : d = d') : EW X c δ e d' := q ▸ h
section
variable {e : En}
abbrev NAr : List Str := ["net", "watches", "source", "start", "found", "turn", "hill", "seen", "step", "other"]
theorem cal_arrOf (T : Top e) : e.Cal CX0 2 "arrivals_of" ["net", "watches", "source", "start"] rArrOf := by
  refine T.arrivalsOf.cal (okN (N := NAr) ⟨rfl, rfl, rfl, by decide +kernel, rfl, by decide +kernel, by decide +kernel⟩ (by rintro ds r ⟨g, ws, s, t, _, _, _, _, _, rfl, rfl⟩; rfl) ?_) fun _ _ _ _ _ _ us hl => match us, hl with | [_, _, _, _], _ => rfl
  rintro f A outer s H E F ds r Q hr ⟨g, ws, src, st, G, hwl, hw, hsrc, hst, rfl, rfl⟩ hq
  have nd : NAr.Nodup := by decide +kernel
  have h9 := G.h9
  have h1 := G.h1
  refine ws_cons (w_setL 4 (ds := (List.replicate g.h (none : Option Nat)).map oN) nd (elC (el_rep (k := (g.h : Int)) (EL.r (el_lst (ea_cons ed_non ea_nil))) (ed_ix (ED.tq (ed_name 0 rfl)) ed_int net0) (by omega) (by omega) ?_) (rep_none _)) ?_)
  · rw [szl]
    show 1 * _ ≤ _
    omega
  have e0 : ((List.replicate g.h (none : Option Nat)).map oN).set src (nD st) = (init g src st).map oN := by
    unfold init
    rw [List.map_set]
    rfl
  refine ws_cons (w_store 4 (jj := src) rfl (ed_name 3 rfl) (ed_name 2 rfl) (by rw [List.length_map, List.length_replicate]; exact ixN_nat hsrc) ?_)
  rw [e0]
  show WS _ _ [.d (eN g), .d (eWs ws), .d (nD src), .d (nD st), .l ((init g src st).map oN), .un, .un, .un, .un, .un] _ _
  refine ws_cons (w_for .never rfl (ei_range1 (ed_ix (ED.tq (ed_name 0 rfl)) ed_int net0) (by constructor <;> omega) T.bRange) (fun i δ => ∃ a b c d z, δ = [.d (eN g), .d (eWs ws), .d (nD src), .d (nD st), .l ((((List.range g.h).take i).foldl (fun f _ => roundL g ws src f) (init g src st)).map oN), a, b, c, d, z] ∧ a = .un ∧ b = .un ∧ c = .un ∧ d = .un ∧ z = .un) ⟨_, _, _, _, _, rfl, rfl, rfl, rfl, rfl, rfl⟩ ?_ ?_)
  · rintro i y δ1 hy ⟨_, _, _, _, _, rfl, rfl, rfl, rfl, rfl, rfl⟩ Fp hFp
    obtain ⟨hi, rfl⟩ := rngD_get hy
    have hi : i < g.h := by omega
    have hbd := rounds_bd (g := g) (src := src) hw i (init g src st) (by omega) init_bd
    have hlen : (((List.range g.h).take i).foldl (fun f _ => roundL g ws src f) (init g src st)).length = g.h := by rw [foldl_len (fun f _ => round_len g ws src f), init_len]
    have hstep : ((List.range g.h).take (i + 1)).foldl (fun f _ => roundL g ws src f) (init g src st) = roundL g ws src (((List.range g.h).take i).foldl (fun f _ => roundL g ws src f) (init g src st)) := fold_step (F := fun f _ => roundL g ws src f) hi
    have hB : st + 8 * g.h * i ≤ st + 8 * 9 * 9 := by
      have := Nat.mul_le_mul (Nat.mul_le_mul_left 8 h9) (show i ≤ 9 by omega)
      omega
    generalize ((List.range g.h).take i).foldl (fun f _ => roundL g ws src f) (init g src st) = fr at hbd hlen hstep ⊢
    refine ⟨_, _, eg_name 5 nd, ?_⟩
    refine ws_one (w_for .never rfl (ei_range1 (ed_ix (ED.tq (ed_name 0 rfl)) ed_int net0) (by constructor <;> omega) T.bRange) (fun j δ => ∃ b c d z, δ = [.d (eN g), .d (eWs ws), .d (nD src), .d (nD st), .l ((((List.range g.h).take j).foldl (relax g ws src) fr).map oN), .d (.int (0 + (i : Nat))), b, c, d, z] ∧ b = .un ∧ c = .un ∧ d = .un ∧ z = .un) ?_ ?_ ?_)
    · exact ⟨_, _, _, _, rfl, rfl, rfl, rfl, rfl⟩
    · rintro j y δ1 hy ⟨_, _, _, _, rfl, rfl, rfl, rfl, rfl⟩ Fp2 hFp2
      obtain ⟨hj, ey⟩ := rng_getN (n := g.h) (by rw [show (((g.h : Nat) : Int)).toNat = g.h by omega] at hy; exact hy)
      subst ey
      have hbd2 := part_bd (g := g) (src := src) hw j fr (by omega) hbd
      have hlen2 : (((List.range g.h).take j).foldl (relax g ws src) fr).length = g.h := by rw [foldl_len (fun f h => relax_len g ws src h f), hlen]
      have hstep2 : ((List.range g.h).take (j + 1)).foldl (relax g ws src) fr = relax g ws src (((List.range g.h).take j).foldl (relax g ws src) fr) j := fold_step hj
      generalize ((List.range g.h).take j).foldl (relax g ws src) fr = f2 at hbd2 hlen2 hstep2 ⊢
      refine ⟨_, _, eg_name 6 nd, ?_⟩
      have fin : ∀ f3 : List (Option Nat), f3 = relax g ws src f2 j → ∀ x1 x2 : Sd, Nx (((cfg0 e.T F H).pin Fp).pin Fp2) [.d (eN g), .d (eWs ws), .d (nD src), .d (nD st), .l (f3.map oN), .d (.int (0 + (i : Nat))), .d (nD j), x1, x2, .un] (fun σ H' => ∃ F' δ3, (∃ b c d z, δ3 = [.d (eN g), .d (eWs ws), .d (nD src), .d (nD st), .l ((((List.range g.h).take (j + 1)).foldl (relax g ws src) fr).map oN), .d (.int (0 + (i : Nat))), b, c, d, z] ∧ b = .un ∧ c = .un ∧ d = .un ∧ z = .un) ∧ Sta (((cfg0 e.T F H).pin Fp).pin Fp2) F' H' σ δ3) := fun f3 h3 x1 x2 => by
        subst h3
        rw [← hstep2]
        exact (nx_next (t := j + 1) (I := fun j δ => ∃ b c d z, δ = [.d (eN g), .d (eWs ws), .d (nD src), .d (nD st), .l ((((List.range g.h).take j).foldl (relax g ws src) fr).map oN), .d (.int (0 + (i : Nat))), b, c, d, z] ∧ b = .un ∧ c = .un ∧ d = .un ∧ z = .un) ⟨_, _, _, _, rfl, rfl, rfl, rfl, rfl⟩).wk
      have hbl : (bes g j).length ≤ 9 := by
        have := List.length_filter_le (adj g j) (List.range g.h)
        rw [List.length_range] at this
        exact Nat.le_trans this h9
      refine ws_cons (w_setLc 7 (own := [("other", 9)]) (kb := fun x => !isN (oN (f2.getD (natD x) none))) (f := fun x => oN (f2.getD (natD x) none)) (δx := fun x => [.d (eN g), .d (eWs ws), .d (nD src), .d (nD st), .l (f2.map oN), .d (.int (0 + (i : Nat))), .d (nD j), .un, .un, .d x]) (blkOk_by (N := NAr) (sc := defScope stArrivalsOf) (by decide +kernel)) nd rfl (ei_lst (EL.ed (el_call (cal_beside T) pass0 (hr.mono (by decide)) (ea_cons (ed_name 0 rfl) (ea_cons (ed_name 6 rfl) ea_nil)) ⟨g, j, G, hj, rfl, rfl⟩))).toC ?_ (fun x hx s H C cl fp => eg_name 9 nd) (fun x hx s H C cl fp => ?_) (fun x hx _ s H C cl fp => ?_) ?_)
      · rw [List.length_map, szl]; omega
      · obtain ⟨o, ho, rfl⟩ := List.mem_map.mp hx
        exact eps_one (ec_notN (ed_ix (eq_name 4 rfl) (ed_name 9 rfl) (oN_at (by rw [hlen2]; exact bes_lt ho)))).et
      · obtain ⟨o, ho, rfl⟩ := List.mem_map.mp hx
        exact ed_ix (eq_name 4 rfl) (ed_name 9 rfl) (oN_at (by rw [hlen2]; exact bes_lt ho))
      · rw [seen_lc]
        show WS _ _ [.d (eN g), .d (eWs ws), .d (nD src), .d (nD st), .l (f2.map oN), .d (.int (0 + (i : Nat))), .d (nD j), .l ((seenL g f2 j).map nD), .un, .un] _ _
        have hc : (decide (j ≠ src) && decide (0 < (seenL g f2 j).length)) = decide (j ≠ src ∧ 0 < (seenL g f2 j).length) := by
          rw [Bool.decide_and]
        refine ws_one (w_if (k := decide (j ≠ src ∧ 0 < (seenL g f2 j).length)) (EW.et (ET.castW ?_ hc)) (fun hk => ?_) (fun hk => ws_nil ?_))
        · refine ew_and (ET.cast (ec_ne (e1 := nD j) (e2 := nD src) (ed_name 6 rfl) (ed_name 2 rfl) rfl).et (by rw [eqF_n, decide_not])) fun _ => ew_and1 (ET.cast (ec_gt (ed_len (eq_name 7 rfl) T.bLen) ed_int).et ?_)
          rw [List.length_map]
          exact decide_eq_decide.mpr (by omega)
        · have hk' := of_decide_eq_true hk
          have hne : seenL g f2 j ≠ [] := fun z => by rw [z] at hk'; exact absurd hk'.2 (Nat.lt_irrefl _)
          obtain ⟨o, _, ho⟩ := seen_mem.mp (minL_mem hne)
          have hm := hbd2 _ _ ho
          have hw8 := hw (ws.getD j []) (by rw [List.getD_eq_getElem?_getD, List.getElem?_eq_getElem (show j < ws.length by omega)]; exact List.getElem_mem _)
          have hmin : minL (seenL g f2 j) ≤ 2000000000000 := by omega
          have hrel : relax g ws src f2 j = match awake (ws.getD j []) (minL (seenL g f2 j)) with
            | none => f2
            | some s => f2.set j (some (newV (f2.getD j none) (s + 1))) := by
            unfold relax
            exact if_pos hk'
          have m1 : ((minL (seenL g f2 j) : Nat) : Int) ∈ iN (seenL g f2 j) := List.mem_map.mpr ⟨_, minL_mem hne, rfl⟩
          have m2 : ∀ y, y ∈ iN (seenL g f2 j) → ((minL (seenL g f2 j) : Nat) : Int) ≤ y := fun y hy => by
            obtain ⟨n, hn, rfl⟩ := List.mem_map.mp hy
            exact Int.ofNat_le.mpr (minL_le hn)
          refine ws_cons (w_set 8 nd (ed_call (cal_awake T) pass0 (hr.mono (by decide)) (ea_cons (ed_ix (ED.tq (ed_name 1 rfl)) (ed_name 6 rfl) (eW_at (by omega))) (ea_cons (ed_min (ER.cast (er_name 7 rfl) (iN_map _).symm) m1 m2 rfl T.bMin) ea_nil)) ⟨_, _, hw8.1, hw8.2, hmin, rfl, rfl⟩) ?_)
          refine ws_one (w_if (ec_notN (ed_name 8 rfl)).et (fun hk2 => ?_) (fun hk2 => ws_nil ?_))
          · rw [isN_oN] at hk2
            cases ha : awake (ws.getD j []) (minL (seenL g f2 j)) with
            | none => rw [ha] at hk2; cases hk2
            | some s =>
              rw [ha] at hrel
              refine ws_one (w_store 4 (jj := j) (d := nD (newV (f2.getD j none) (s + 1))) rfl (ED.cast (ed_if (d2 := nD (newV (f2.getD j none) (s + 1))) (ec_isN (ed_ix (eq_name 4 rfl) (ed_name 6 rfl) (oN_at (by omega)))).et (fun hk3 => ed_add (ed_name 8 rfl) ed_int) (fun hk3 => ?_)) ?_) (ed_name 6 rfl) (by rw [List.length_map, hlen2]; exact ixN_nat hj) ?_)
              · rw [isN_oN] at hk3
                cases hf : f2.getD j none with
                | none => rw [hf] at hk3; cases hk3
                | some y =>
                  refine ED.cast (ed_min2 (edC (ed_ix (eq_name 4 rfl) (ed_name 6 rfl) (oN_at (by omega))) (by rw [hf]; rfl)) (ed_add (ed_name 8 rfl) ed_int) rfl T.bMin) ?_
                  show PyData.int (if (s : Int) + 1 < (y : Nat) then (s : Int) + 1 else (y : Nat)) = .int ((min y (s + 1) : Nat) : Int)
                  congr 1
                  split <;> omega
              · rw [isN_oN]
                cases hf : f2.getD j none with
                | none => rfl
                | some y => rfl
              · show Nx _ [.d (eN g), .d (eWs ws), .d (nD src), .d (nD st), .l ((f2.map oN).set j (nD (newV (f2.getD j none) (s + 1)))), .d (.int (0 + (i : Nat))), .d (nD j), .l ((seenL g f2 j).map nD), _, .un] _
                have e7 : (f2.map oN).set j (nD (newV (f2.getD j none) (s + 1))) = (f2.set j (some (newV (f2.getD j none) (s + 1)))).map oN := by
                  rw [List.map_set]
                  rfl
                rw [e7]
                exact fin _ hrel.symm _ _
          · rw [isN_oN] at hk2
            cases ha : awake (ws.getD j []) (minL (seenL g f2 j)) with
            | some s => rw [ha] at hk2; cases hk2
            | none =>
              rw [ha] at hrel
              exact fin f2 hrel.symm _ _
        · have hk' := of_decide_eq_false hk
          refine fin f2 ?_ _ _
          unfold relax
          rw [if_neg hk']
    · rintro δ1 ⟨_, _, _, _, rfl, rfl, rfl, rfl, rfl⟩
      have e9 : (rngD 0 (((g.h : Nat) : Int)).toNat).length = g.h := by rw [rng_len]; omega
      show Nx _ _ _
      rw [e9, fold_full]
      have e8 : ((List.range g.h).foldl (relax g ws src) fr) = ((List.range g.h).take (i + 1)).foldl (fun f _ => roundL g ws src f) (init g src st) := by
        rw [hstep]
        rfl
      rw [e8]
      exact (nx_next (t := i + 1) (I := fun i δ => ∃ a b c d z, δ = [.d (eN g), .d (eWs ws), .d (nD src), .d (nD st), .l ((((List.range g.h).take i).foldl (fun f _ => roundL g ws src f) (init g src st)).map oN), a, b, c, d, z] ∧ a = .un ∧ b = .un ∧ c = .un ∧ d = .un ∧ z = .un) ⟨_, _, _, _, _, rfl, rfl, rfl, rfl, rfl, rfl⟩).wk
  · rintro δ1 ⟨_, _, _, _, _, rfl, rfl, rfl, rfl, rfl, rfl⟩
    have e9 : (rngD 0 (((g.h : Nat) : Int)).toNat).length = g.h := by rw [rng_len]; omega
    show WS _ _ _ _ _
    rw [e9, fold_full]
    exact ws_one (w_retO 4 rfl rfl hq)
end
end Fs

set_option Elab.async false
set_option linter.all false
set_option maxRecDepth 100000
set_option maxHeartbeats 4000000
/-! Firesseen: arrivals, delays. -/
namespace Fs
open PySem PySem.Spec L2
def Lb (f : List (Option Nat)) (B : Nat) : Prop := ∀ (i v : Nat), f.getD i none = some v → B ≤ v
theorem relax_lb {g : Nt} {ws : List Wt} {src h B : Nat} {f : List (Option Nat)} (hB : Lb f B) : Lb (relax g ws src f h) B := by
  unfold relax
  split
  · rename_i hc
    have hne : seenL g f h ≠ [] := fun z => by rw [z] at hc; exact absurd hc.2 (Nat.lt_irrefl _)
    obtain ⟨o, _, ho⟩ := seen_mem.mp (minL_mem hne)
    have hm := hB _ _ ho
    split
    · exact hB
    · rename_i s hs
      have h1 := awake_bd hs
      intro i v e
      rw [getD_set] at e
      split at e
      · have e' := Option.some.inj e
        cases hf : f.getD h none with
        | none =>
          rw [hf] at e'
          have : s + 1 = v := e'
          omega
        | some y =>
          have hy := hB _ _ hf
          rw [hf] at e'
          have : min y (s + 1) = v := e'
          omega
      · exact hB i v e
  · exact hB
theorem foldl_inv {α β : Type} {P : β → Prop} {F : β → α → β} (h : ∀ f a, P f → P (F f a)) : ∀ (l : List α) (f : β), P f → P (l.foldl F f)
  | [], _, hp => hp
  | a :: l, f, hp => foldl_inv h l _ (h f a hp)
theorem init_lb {g : Nt} {src st : Nat} : Lb (init g src st) st := by
  intro i v e
  unfold init at e
  rw [getD_set] at e
  split at e
  · have := Option.some.inj e
    omega
  · rw [List.getD_eq_getElem?_getD, List.getElem?_replicate] at e
    split at e <;> simp at e
theorem arr_lb (g : Nt) (ws : List Wt) (src st : Nat) : Lb (arrL g ws src st) st :=
  foldl_inv (P := fun f => Lb f st) (fun f _ hf => foldl_inv (P := fun f => Lb f st) (fun f h hf => relax_lb hf) _ f hf) _ _ init_lb
def dOne (g : Nt) (ws : List Wt) (src tgt st : Nat) : Option Nat := ((arrL g ws src st).getD tgt none).map (· - st)
def delL (g : Nt) (ws : List Wt) (src tgt : Nat) : List (Option Nat) := (List.range (turnL ws)).map (dOne g ws src tgt)
theorem turn_pos {ws : List Wt} (hw : ∀ w ∈ ws, 1 ≤ w.length ∧ w.length ≤ 8) : 0 < turnL ws ∧ turnL ws ≤ 840 := by
  have h := turn_dvd ws 1 (by decide) hw
  exact ⟨pos_of_dvd h (by decide), Nat.le_of_dvd (by decide) h⟩
theorem net_inj {g g' : Nt} (e1 : eN g = eN g') : g = g' := by
  obtain ⟨h, ls⟩ := g
  obtain ⟨h', ls'⟩ := g'
  unfold eN at e1
  simp only [PyData.tuple.injEq, List.cons.injEq, and_true] at e1
  have k1 : h = h' := nD_inj e1.1
  have k2 : ls = ls' := by
    have := congrArg (List.map unP) e1.2
    rw [List.map_map, List.map_map] at this
    rw [← List.map_id'' (f := unP ∘ eP) (fun p => unP_eP p) ls, ← List.map_id'' (f := unP ∘ eP) (fun p => unP_eP p) ls']
    exact this
  rw [k1, k2]
theorem GoodW.uniq {d dw : D} {g g' : Nt} {ws ws' : List Wt} (a : GoodW d dw g ws) (b : GoodW d dw g' ws') : g = g' ∧ ws = ws' := by
  have e1 : eN g = eN g' := a.hd.symm.trans b.hd
  have e2 : eWs ws = eWs ws' := a.hw.symm.trans b.hw
  refine ⟨?_, ?_⟩
  · obtain ⟨h, ls⟩ := g
    obtain ⟨h', ls'⟩ := g'
    unfold eN at e1
    simp only [PyData.tuple.injEq, List.cons.injEq, and_true] at e1
    have k1 : h = h' := nD_inj e1.1
    have k2 : ls = ls' := by
      have := congrArg (List.map unP) e1.2
      rw [List.map_map, List.map_map] at this
      rw [← List.map_id'' (f := unP ∘ eP) (fun p => unP_eP p) ls, ← List.map_id'' (f := unP ∘ eP) (fun p => unP_eP p) ls']
      exact this
    rw [k1, k2]
  · unfold eWs at e2
    simp only [PyData.tuple.injEq] at e2
    have := congrArg (List.map unW) e2
    rw [List.map_map, List.map_map] at this
    rw [← List.map_id'' (f := unW ∘ eW) (fun p => unW_eW p) ws, ← List.map_id'' (f := unW ∘ eW) (fun p => unW_eW p) ws']
    exact this
theorem hill_of {h : Nat} {d : D} (h1 : 1 ≤ h) (a : inI 0 ((h : Int) - 1) d = true) : ∃ n : Nat, d = nD n ∧ n < h := by
  obtain ⟨n, e, _, e2⟩ := inI_nat a (by omega)
  exact ⟨n, e, by omega⟩
theorem hill_in {h n : Nat} (a : n < h) : inI 0 ((h : Int) - 1) (nD n) = true := by
  simp only [inI, nD, Bool.and_eq_true, decide_eq_true_eq]
  omega
section
variable {e : En}
def rArrivals (ds : List D) (r : Res) : Prop := ∃ d dw d1 d2 v, ds = [d, dw, d1, d2] ∧ fewD d = true ∧ r = kW d dw (kI 0 (hOf d - 1) d1 "source" (kI 0 1000000000000 d2 "start" v)) ∧
  ∀ g ws s t, GoodW d dw g ws → d1 = nD s → s < g.h → d2 = nD t → t ≤ 1000000000000 → v = .d (.tuple ((arrL g ws s t).map oN))
theorem ok_arrivals (T : Top e) : OkF e e.CX 8 "arrivals" stArrivals ["net", "watches", "source", "start"] rArrivals := by
  refine okR (N := ["net", "watches", "source", "start"]) ⟨rfl, rfl, rfl, by decide +kernel, rfl, by decide +kernel, by decide +kernel⟩ (by rintro ds r ⟨d, dw, d1, d2, v, rfl, _⟩; rfl) ?_
  rintro f A outer s H E F ds r Q hr ⟨d, dw, d1, d2, v, rfl, hfew, rfl, hv⟩ hq hx
  have tk : Takes (e.cxR ["net", "watches", "source", "start"] "arrivals" stArrivals f A outer s H E) (fun cls d _ H => E cls d H) := takes_of rfl rfl rfl rfl
  refine ws_cons (w_callX (r := kW d dw (.d .none)) (cal_needWatches T) tk hr (ea_cons (ed_name 0 rfl) (ea_cons (ed_name 1 rfl) ea_nil)) ⟨_, _, rfl, hfew, rfl⟩ (fun x hd => ?_) (wx_kW hx) kW_or)
  obtain ⟨g1, g2⟩ := kW_d hd
  rw [kW_good g1 g2] at hq hx
  obtain ⟨g, ws, W⟩ := good_w g1 g2
  have eh := W.hd
  have ew := W.hw
  subst eh ew
  rw [hOf_eN] at hq hx
  refine ws_cons (w_callX (r := kI 0 ((g.h : Int) - 1) d1 "source" (.d .none)) (cal_needHill T) tk (hr.mono (by decide)) (ea_cons (ed_name 0 rfl) (ea_cons (ed_name 2 rfl) (ea_cons ed_str ea_nil))) ⟨_, _, _, rfl, by decide +kernel, rfl⟩ (fun x hd => ?_) (wx_kI hx) kI_or)
  have g3 := kI_d hd
  rw [kI_good g3] at hq hx
  obtain ⟨s1, rfl, hs1⟩ := hill_of W.G.h1 g3
  refine ws_cons (w_callX (r := kI 0 1000000000000 d2 "start" (.d .none)) (cal_needInteger T) tk (hr.mono (by decide)) (ea_cons (ed_name 3 rfl) (ea_cons ed_str (ea_cons ed_int (ea_cons (glob_int T.nMostStep) ea_nil)))) ⟨_, _, _, _, rfl, by decide +kernel, rfl⟩ (fun x hd => ?_) (wx_kI hx) kI_or)
  have g4 := kI_d hd
  rw [kI_good g4] at hq hx
  obtain ⟨t1, rfl, _, ht1⟩ := inI_nat g4 (by omega)
  rw [hv g ws s1 t1 W rfl hs1 rfl (by omega)] at hq
  exact ws_one (w_ret (ed_tuple (EL.r (el_call (cal_arrOf T) pass0 (hr.mono (by decide)) (ea_cons (ed_name 0 rfl) (ea_cons (ed_name 1 rfl) (ea_cons (ed_name 2 rfl) (ea_cons (ed_name 3 rfl) ea_nil)))) ⟨g, ws, s1, t1, W.G, W.len, W.ok, hs1, by omega, rfl, rfl⟩)) T.bTuple) hq)
def rDelays (ds : List D) (r : Res) : Prop := ∃ d dw d1 d2 v, ds = [d, dw, d1, d2] ∧ fewD d = true ∧ r = kW d dw (kI 0 (hOf d - 1) d1 "source" (kI 0 (hOf d - 1) d2 "target" v)) ∧
  ∀ g ws s t, GoodW d dw g ws → d1 = nD s → s < g.h → d2 = nD t → t < g.h → v = .z ((delL g ws s t).map oN)
abbrev NDe : List Str := ["net", "watches", "source", "target", "found", "start", "step"]
theorem ok_delays (T : Top e) : OkF e e.CX 8 "delays" stDelays ["net", "watches", "source", "target"] rDelays := by
  refine okR (N := NDe) ⟨rfl, rfl, rfl, by decide +kernel, rfl, by decide +kernel, by decide +kernel⟩ (by rintro ds r ⟨d, dw, d1, d2, v, rfl, _⟩; rfl) ?_
  rintro f A outer s H E F ds r Q hr ⟨d, dw, d1, d2, v, rfl, hfew, rfl, hv⟩ hq hx
  have nd : NDe.Nodup := by decide +kernel
  have tk : Takes (e.cxR NDe "delays" stDelays f A outer s H E) (fun cls d _ H => E cls d H) := takes_of rfl rfl rfl rfl
  refine ws_cons (w_callX (r := kW d dw (.d .none)) (cal_needWatches T) tk hr (ea_cons (ed_name 0 rfl) (ea_cons (ed_name 1 rfl) ea_nil)) ⟨_, _, rfl, hfew, rfl⟩ (fun x hd => ?_) (wx_kW hx) kW_or)
  obtain ⟨g1, g2⟩ := kW_d hd
  rw [kW_good g1 g2] at hq hx
  obtain ⟨g, ws, W⟩ := good_w g1 g2
  have eh := W.hd
  have ew := W.hw
  subst eh ew
  rw [hOf_eN] at hq hx
  refine ws_cons (w_callX (r := kI 0 ((g.h : Int) - 1) d1 "source" (.d .none)) (cal_needHill T) tk (hr.mono (by decide)) (ea_cons (ed_name 0 rfl) (ea_cons (ed_name 2 rfl) (ea_cons ed_str ea_nil))) ⟨_, _, _, rfl, by decide +kernel, rfl⟩ (fun x hd => ?_) (wx_kI hx) kI_or)
  have g3 := kI_d hd
  rw [kI_good g3] at hq hx
  obtain ⟨s1, rfl, hs1⟩ := hill_of W.G.h1 g3
  refine ws_cons (w_callX (r := kI 0 ((g.h : Int) - 1) d2 "target" (.d .none)) (cal_needHill T) tk (hr.mono (by decide)) (ea_cons (ed_name 0 rfl) (ea_cons (ed_name 3 rfl) (ea_cons ed_str ea_nil))) ⟨_, _, _, rfl, by decide +kernel, rfl⟩ (fun x hd => ?_) (wx_kI hx) kI_or)
  have g4 := kI_d hd
  rw [kI_good g4] at hq hx
  obtain ⟨t1, rfl, ht1⟩ := hill_of W.G.h1 g4
  rw [hv g ws s1 t1 W rfl hs1 rfl ht1] at hq
  obtain ⟨tp, t8⟩ := turn_pos W.ok
  refine WS.nx (ws_nox ?_)
  refine ws_cons (w_setL 4 (ds := []) nd (el_lst ea_nil) ?_)
  refine ws_cons (w_for .never rfl (ei_range1 (ed_call (cal_turn T) pass0 (hr.mono (by decide)) (ea_cons (ed_name 1 rfl) ea_nil) ⟨ws, W.ok, rfl, rfl⟩) (by constructor <;> omega) T.bRange) (fun i δ => ∃ a b, δ = [.d (eN g), .d (eWs ws), .d (nD s1), .d (nD t1), .l (((List.range i).map (dOne g ws s1 t1)).map oN), a, b] ∧ a = .un ∧ b = .un) ⟨_, _, rfl, rfl, rfl⟩ ?_ ?_)
  · rintro i y δ1 hy ⟨_, _, rfl, rfl, rfl⟩ Fp hFp
    obtain ⟨hi, rfl⟩ := rng_getN (n := turnL ws) (by rw [show (((turnL ws : Nat) : Int)).toNat = turnL ws by omega] at hy; exact hy)
    refine ⟨_, _, eg_name 5 nd, ?_⟩
    have lb := arr_lb g ws s1 i
    have ln := arr_len g ws s1 i
    refine ws_cons (w_set 6 nd (ed_ix (EL.q (el_call (cal_arrOf T) pass0 (hr.mono (by decide)) (ea_cons (ed_name 0 rfl) (ea_cons (ed_name 1 rfl) (ea_cons (ed_name 2 rfl) (ea_cons (ed_name 5 rfl) ea_nil)))) ⟨g, ws, s1, i, W.G, W.len, W.ok, hs1, by omega, rfl, rfl⟩)) (ed_name 3 rfl) (oN_at (by omega))) ?_)
    have hst : dOne g ws s1 t1 i = ((arrL g ws s1 i).getD t1 none).map (· - i) := rfl
    have hlb := lb t1
    generalize (arrL g ws s1 i).getD t1 none = o at hst hlb
    refine ws_one (w_append 4 (d := oN (dOne g ws s1 t1 i)) rfl (ED.cast (ed_if (d2 := oN (dOne g ws s1 t1 i)) (ec_isN (ed_name 6 rfl)).et (fun hk => ed_non) (fun hk => ?_)) ?_) ?_ ?_)
    · rw [isN_oN] at hk
      cases o with
      | none => cases hk
      | some v =>
        rw [hst]
        refine edC (ed_sub (ed_name 6 rfl) (ed_name 5 rfl)) ?_
        have := hlb v rfl
        show PyData.int ((v : Int) - (i : Nat)) = .int ((v - i : Nat) : Int)
        congr 1
        omega
    · rw [isN_oN]
      cases o with
      | none => rw [hst]; rfl
      | some v => rfl
    · rw [List.length_map, List.length_map, List.length_range, szl]
      omega
    · have e9 : ((List.range i).map (dOne g ws s1 t1)).map oN ++ [oN (dOne g ws s1 t1 i)] = ((List.range (i + 1)).map (dOne g ws s1 t1)).map oN := by
        rw [List.range_succ, List.map_append, List.map_append]
        rfl
      rw [e9]
      exact (nx_next (t := i + 1) (I := fun i δ => ∃ a b, δ = [.d (eN g), .d (eWs ws), .d (nD s1), .d (nD t1), .l (((List.range i).map (dOne g ws s1 t1)).map oN), a, b] ∧ a = .un ∧ b = .un) ⟨_, _, rfl, rfl, rfl⟩).wk
  · rintro δ1 ⟨_, _, rfl, rfl, rfl⟩
    have e9 : (rngD 0 (((turnL ws : Nat) : Int)).toNat).length = turnL ws := by rw [rng_len]; omega
    show WS _ _ _ _ _
    rw [e9]
    exact ws_one (w_retZ (ez_tuple (er_name 4 rfl) T.bTuple) hq)
theorem cal_delays (T : Top e) : e.Cal e.CX 8 "delays" ["net", "watches", "source", "target"] rDelays := T.delays.cal (ok_delays T) fun _ _ _ _ _ _ us hl => match us, hl with | [_, _, _, _], _ => rfl
theorem del_good {d dw : D} {g : Nt} {ws : List Wt} {s t : Nat} (W : GoodW d dw g ws) (hs : s < g.h) (ht : t < g.h) : rDelays [eN g, eWs ws, nD s, nD t] (.z ((delL g ws s t).map oN)) := by
  have e1 := W.hd
  have e2 := W.hw
  subst e1 e2
  refine ⟨_, _, _, _, .z ((delL g ws s t).map oN), rfl, few_net W.G, ?_, fun g' ws' s' t' W' h1 _ h2 _ => ?_⟩
  · rw [kW_good (net_is W.G) (by rw [hOf_eN]; exact areW_good W.len W.ok), hOf_eN, kI_good (hill_in hs), kI_good (hill_in ht)]
  · obtain ⟨rfl, rfl⟩ := W.uniq W'
    rw [nD_inj h1, nD_inj h2]
end
end Fs

set_option Elab.async false
set_option linter.all false
set_option maxRecDepth 100000
set_option maxHeartbeats 4000000
/-! Firesseen: worst_delay, mean_delay, longer_some, needed_watchers. -/
namespace Fs
open PySem PySem.Spec L2
def maxL : List Nat → Nat
  | [] => 0
  | a :: r => max a (maxL r)
theorem maxL_le : ∀ {l : List Nat} {x : Nat}, x ∈ l → x ≤ maxL l
  | a :: r, x, h => by
    rcases List.mem_cons.mp h with rfl | h
    · exact Nat.le_max_left _ _
    · exact Nat.le_trans (maxL_le h) (Nat.le_max_right _ _)
theorem maxL_mem : ∀ {l : List Nat}, l ≠ [] → maxL l ∈ l
  | [], h => absurd rfl h
  | [a], _ => by
    show max a 0 ∈ [a]
    rw [Nat.max_eq_left (Nat.zero_le _)]
    exact List.mem_cons_self
  | a :: b :: r, _ => by
    have ih := maxL_mem (l := b :: r) (by simp)
    show max a (maxL (b :: r)) ∈ a :: b :: r
    rcases Nat.le_total a (maxL (b :: r)) with h | h
    · rw [Nat.max_eq_right h]; exact List.mem_cons_of_mem _ ih
    · rw [Nat.max_eq_left h]; exact List.mem_cons_self
theorem eqW_n (a b : Nat) : eqW (nD a) (nD b) = decide (a = b) := by
  rw [Bool.eq_iff_iff]
  simp only [eqW, nD, beq_iff_eq, decide_eq_true_eq]
  exact Int.ofNat_inj
theorem idx_nat {l : List Nat} {x : Nat} (h : x ∈ l) : IdxAt (l.map nD) (nD x) (l.idxOf x) := by
  have hl := List.idxOf_lt_length_of_mem h
  refine ⟨⟨nD x, ?_, by rw [eqW_n]; simp⟩, fun m z hm hz => ?_⟩
  · rw [List.getElem?_map, List.getElem?_eq_getElem hl, List.getElem_idxOf hl]
    rfl
  · obtain ⟨y, hy, rfl⟩ := map_get hz
    rw [eqW_n]
    refine decide_eq_false fun e => ?_
    subst e
    obtain ⟨hm2, e2⟩ := List.getElem?_eq_some_iff.mp hy
    have := List.not_of_lt_findIdx (p := (· == y)) (xs := l) hm
    simp only [e2, beq_self_eq_true] at this
    exact absurd this (by simp)
def valsOf (rows : List (Option Nat)) : List Nat := rows.filterMap id
theorem vals_map : ∀ {rows : List (Option Nat)}, none ∉ rows → rows.map oN = (valsOf rows).map nD
  | [], _ => rfl
  | none :: r, h => absurd List.mem_cons_self h
  | some v :: r, h => by
    have ih := vals_map (rows := r) fun z => h (List.mem_cons_of_mem _ z)
    show nD v :: r.map oN = nD v :: (valsOf r).map nD
    rw [ih]
theorem vals_len {rows : List (Option Nat)} (h : none ∉ rows) : (valsOf rows).length = rows.length := by
  have := congrArg List.length (vals_map h)
  rw [List.length_map, List.length_map] at this
  exact this.symm
theorem inD_none (rows : List (Option Nat)) : inD .none (rows.map oN) = decide (none ∈ rows) := by
  unfold inD
  rw [List.any_map, Bool.eq_iff_iff, List.any_eq_true, decide_eq_true_eq]
  constructor
  · rintro ⟨x, hx, e⟩
    cases x with
    | none => exact hx
    | some v => simp [oN, nD, eqW] at e
  · exact fun h => ⟨none, h, rfl⟩
theorem flat_oN (rows : List (Option Nat)) : (rows.map oN).all flatD = true := by
  rw [List.all_map, List.all_eq_true]
  intro x _
  cases x <;> rfl
def worstD (rows : List (Option Nat)) : D := if none ∈ rows then .none else .tuple [nD (maxL (valsOf rows)), nD ((valsOf rows).idxOf (maxL (valsOf rows)))]
def meanD (rows : List (Option Nat)) : D := if none ∈ rows then .none else .tuple [nD ((valsOf rows).sum / Nat.gcd (valsOf rows).sum rows.length), nD (rows.length / Nat.gcd (valsOf rows).sum rows.length)]
def asleepW (ws : List Wt) (i : Nat) : List Wt := ws.take i ++ [[false]] ++ ws.drop (i + 1)
def longP (rows later : List (Option Nat)) (st : Nat) : Bool := decide (rows.getD st none ≠ later.getD (st % later.length) none)
def needP (g : Nt) (ws : List Wt) (s t i : Nat) : Bool := !decide (i ∈ [s, t]) && (List.range (delL g ws s t).length).any (longP (delL g ws s t) (delL g (asleepW ws i) s t))
def needL (g : Nt) (ws : List Wt) (s t : Nat) : List Nat := (List.range g.h).filter (needP g ws s t)
theorem sum_iN (l : List Nat) : (iN l).sum = ((l.sum : Nat) : Int) := by
  induction l with
  | nil => rfl
  | cons a r ih =>
    show (a : Int) + (iN r).sum = ((a + r.sum : Nat) : Int)
    rw [ih, Int.natCast_add]
theorem del_len (g : Nt) (ws : List Wt) (s t : Nat) : (delL g ws s t).length = turnL ws := by
  unfold delL
  rw [List.length_map, List.length_range]
theorem asleep_ok {g : Nt} {ws : List Wt} {i : Nat} (l : ws.length = g.h) (ok : ∀ w ∈ ws, 1 ≤ w.length ∧ w.length ≤ 8) (hi : i < g.h) : (asleepW ws i).length = g.h ∧ ∀ w ∈ asleepW ws i, 1 ≤ w.length ∧ w.length ≤ 8 := by
  refine ⟨?_, fun w hw => ?_⟩
  · unfold asleepW
    rw [List.length_append, List.length_append, List.length_take, List.length_drop]
    show min i ws.length + 1 + _ = _
    omega
  · unfold asleepW at hw
    rw [List.mem_append, List.mem_append] at hw
    rcases hw with (hw | hw) | hw
    · exact ok w (List.mem_of_mem_take hw)
    · rw [List.mem_singleton.mp hw]
      decide
    · exact ok w (List.mem_of_mem_drop hw)
theorem cut_to {ds : List D} {i : Nat} (h : i ≤ ds.length) : cutD ds none (some (i : Nat)) = ds.take i := by
  unfold cutD
  have e : HT.sIx ds.length ds.length (some ((i : Nat) : Int)) = i := by
    rw [HT.sIx_nat]
    omega
  rw [e]
  show (List.drop 0 _).take (i - 0) = _
  rw [List.drop_zero, Nat.sub_zero]
theorem cut_from {ds : List D} {i : Nat} (h : i ≤ ds.length) : cutD ds (some (i : Nat)) none = ds.drop i := by
  unfold cutD
  have e : HT.sIx ds.length 0 (some ((i : Nat) : Int)) = i := by
    rw [HT.sIx_nat]
    omega
  rw [e]
  show (List.drop i ds).take (ds.length - i) = _
  rw [List.take_of_length_le (by rw [List.length_drop]; exact Nat.le_refl _)]
section
variable {e : En}
/-- the checks of a function of a net, watches, two hills: what is left to be shown behind them -/
def rTwo (out : Nt → List Wt → Nat → Nat → Res) (ds : List D) (r : Res) : Prop := ∃ d dw d1 d2 v, ds = [d, dw, d1, d2] ∧ fewD d = true ∧ r = kW d dw (kI 0 (hOf d - 1) d1 "source" (kI 0 (hOf d - 1) d2 "target" v)) ∧
  ∀ g ws s t, GoodW d dw g ws → d1 = nD s → s < g.h → d2 = nD t → t < g.h → v = out g ws s t
theorem two_good {d dw : D} {g : Nt} {ws : List Wt} {s t : Nat} {out : Nt → List Wt → Nat → Nat → Res} (W : GoodW d dw g ws) (hs : s < g.h) (ht : t < g.h) : rTwo out [eN g, eWs ws, nD s, nD t] (out g ws s t) := by
  have e1 := W.hd
  have e2 := W.hw
  subst e1 e2
  refine ⟨_, _, _, _, out g ws s t, rfl, few_net W.G, ?_, fun g' ws' s' t' W' h1 _ h2 _ => ?_⟩
  · rw [kW_good (net_is W.G) (by rw [hOf_eN]; exact areW_good W.len W.ok), hOf_eN, kI_good (hill_in hs), kI_good (hill_in ht)]
  · obtain ⟨rfl, rfl⟩ := W.uniq W'
    rw [nD_inj h1, nD_inj h2]
def rWorst : List D → Res → Prop := rTwo fun g ws s t => .d (worstD (delL g ws s t))
abbrev NWo : List Str := ["net", "watches", "source", "target", "rows"]
theorem ok_worst (T : Top e) : OkF e e.CX 9 "worst_delay" stWorstDelay ["net", "watches", "source", "target"] rWorst := by
  refine okR (N := NWo) ⟨rfl, rfl, rfl, by decide +kernel, rfl, by decide +kernel, by decide +kernel⟩ (by rintro ds r ⟨d, dw, d1, d2, v, rfl, _⟩; rfl) ?_
  rintro f A outer s H E F ds r Q hr ⟨d, dw, d1, d2, v, rfl, hfew, rfl, hv⟩ hq hx
  have nd : NWo.Nodup := by decide +kernel
  have tk : Takes (e.cxR NWo "worst_delay" stWorstDelay f A outer s H E) (fun cls d _ H => E cls d H) := takes_of rfl rfl rfl rfl
  refine ws_cons (w_callX (r := kW d dw (.d .none)) (cal_needWatches T) tk (hr.mono (by decide)) (ea_cons (ed_name 0 rfl) (ea_cons (ed_name 1 rfl) ea_nil)) ⟨_, _, rfl, hfew, rfl⟩ (fun x hd => ?_) (wx_kW hx) kW_or)
  obtain ⟨g1, g2⟩ := kW_d hd
  rw [kW_good g1 g2] at hq hx
  obtain ⟨g, ws, W⟩ := good_w g1 g2
  have eh := W.hd
  have ew := W.hw
  subst eh ew
  rw [hOf_eN] at hq hx
  refine ws_cons (w_callX (r := kI 0 ((g.h : Int) - 1) d1 "source" (.d .none)) (cal_needHill T) tk (hr.mono (by decide)) (ea_cons (ed_name 0 rfl) (ea_cons (ed_name 2 rfl) (ea_cons ed_str ea_nil))) ⟨_, _, _, rfl, by decide +kernel, rfl⟩ (fun x hd => ?_) (wx_kI hx) kI_or)
  have g3 := kI_d hd
  rw [kI_good g3] at hq hx
  obtain ⟨s1, rfl, hs1⟩ := hill_of W.G.h1 g3
  refine ws_cons (w_callX (r := kI 0 ((g.h : Int) - 1) d2 "target" (.d .none)) (cal_needHill T) tk (hr.mono (by decide)) (ea_cons (ed_name 0 rfl) (ea_cons (ed_name 3 rfl) (ea_cons ed_str ea_nil))) ⟨_, _, _, rfl, by decide +kernel, rfl⟩ (fun x hd => ?_) (wx_kI hx) kI_or)
  have g4 := kI_d hd
  rw [kI_good g4] at hq hx
  obtain ⟨t1, rfl, ht1⟩ := hill_of W.G.h1 g4
  rw [hv g ws s1 t1 W rfl hs1 rfl ht1] at hq
  replace hq : Ret (cfg0 e.T F H) Q (.d (worstD (delL g ws s1 t1))) := hq
  have hln := del_len g ws s1 t1
  obtain ⟨tp, t8⟩ := turn_pos W.ok
  refine WS.nx (ws_nox ?_)
  refine ws_cons (w_setZ 4 nd (eu_call (cal_delays T) passL hr (ea_cons (ed_name 0 rfl) (ea_cons (ed_name 1 rfl) (ea_cons (ed_name 2 rfl) (ea_cons (ed_name 3 rfl) ea_nil)))) (del_good W hs1 ht1) (fun _ z => by cases z)) ?_)
  generalize delL g ws s1 t1 = rows at hq hln ⊢
  show WS _ _ [.d (eN g), .d (eWs ws), .d (nD s1), .d (nD t1), .z (rows.map oN)] _ _
  refine ws_cons (w_if (k := decide (none ∈ rows)) (ET.cast (ec_in ed_non (ED.tq (ed_nameZ 4 rfl)) rfl (flat_oN rows)).et (inD_none rows)) (fun hk => ?_) (fun hk => ws_nil ?_))
  · unfold worstD at hq
    rw [if_pos (of_decide_eq_true hk)] at hq
    exact ws_one (w_ret ed_non hq)
  · have hn := of_decide_eq_false hk
    unfold worstD at hq
    rw [if_neg hn] at hq
    have hl := vals_len hn
    rw [vals_map hn]
    have hne : valsOf rows ≠ [] := fun z => by rw [z] at hl; simp at hl; omega
    have m1 := maxL_mem hne
    have mx : ∀ δ : List Sd, δ[4]? = some (.z ((valsOf rows).map nD)) → ∀ p1 p2 p3, ED (e.cxN NWo "worst_delay" stWorstDelay f A outer s H E) (cfg0 e.T F H) δ (.Call (.Name "max" p1) [.Name "rows" p2] [] p3) (nD (maxL (valsOf rows))) := fun δ hδ p1 p2 p3 => by
      refine ed_maxT (ns := iN (valsOf rows)) (m := ((maxL (valsOf rows) : Nat) : Int)) (ED.cast (ed_nameZ 4 hδ) (by rw [iN_map])) (List.mem_map.mpr ⟨_, m1, rfl⟩) (fun y hy => ?_) rfl T.bMax
      obtain ⟨n, hn, rfl⟩ := List.mem_map.mp hy
      exact Int.ofNat_le.mpr (maxL_le hn)
    exact ws_one (w_ret (ed_tup (ea_cons (mx _ rfl _ _ _) (ea_cons (edC (ed_indexT 4 rfl (mx _ rfl _ _ _) rfl (flat_nats _) (idx_nat m1)) rfl) ea_nil))) hq)
def rMean : List D → Res → Prop := rTwo fun g ws s t => .d (meanD (delL g ws s t))
abbrev NMe : List Str := ["net", "watches", "source", "target", "rows", "above", "one", "other"]
theorem ok_mean (T : Top e) : OkF e e.CX 9 "mean_delay" stMeanDelay ["net", "watches", "source", "target"] rMean := by
  refine okR (N := NMe) ⟨rfl, rfl, rfl, by decide +kernel, rfl, by decide +kernel, by decide +kernel⟩ (by rintro ds r ⟨d, dw, d1, d2, v, rfl, _⟩; rfl) ?_
  rintro f A outer s H E F ds r Q hr ⟨d, dw, d1, d2, v, rfl, hfew, rfl, hv⟩ hq hx
  have nd : NMe.Nodup := by decide +kernel
  have tk : Takes (e.cxR NMe "mean_delay" stMeanDelay f A outer s H E) (fun cls d _ H => E cls d H) := takes_of rfl rfl rfl rfl
  refine ws_cons (w_callX (r := kW d dw (.d .none)) (cal_needWatches T) tk (hr.mono (by decide)) (ea_cons (ed_name 0 rfl) (ea_cons (ed_name 1 rfl) ea_nil)) ⟨_, _, rfl, hfew, rfl⟩ (fun x hd => ?_) (wx_kW hx) kW_or)
  obtain ⟨g1, g2⟩ := kW_d hd
  rw [kW_good g1 g2] at hq hx
  obtain ⟨g, ws, W⟩ := good_w g1 g2
  have eh := W.hd
  have ew := W.hw
  subst eh ew
  rw [hOf_eN] at hq hx
  refine ws_cons (w_callX (r := kI 0 ((g.h : Int) - 1) d1 "source" (.d .none)) (cal_needHill T) tk (hr.mono (by decide)) (ea_cons (ed_name 0 rfl) (ea_cons (ed_name 2 rfl) (ea_cons ed_str ea_nil))) ⟨_, _, _, rfl, by decide +kernel, rfl⟩ (fun x hd => ?_) (wx_kI hx) kI_or)
  have g3 := kI_d hd
  rw [kI_good g3] at hq hx
  obtain ⟨s1, rfl, hs1⟩ := hill_of W.G.h1 g3
  refine ws_cons (w_callX (r := kI 0 ((g.h : Int) - 1) d2 "target" (.d .none)) (cal_needHill T) tk (hr.mono (by decide)) (ea_cons (ed_name 0 rfl) (ea_cons (ed_name 3 rfl) (ea_cons ed_str ea_nil))) ⟨_, _, _, rfl, by decide +kernel, rfl⟩ (fun x hd => ?_) (wx_kI hx) kI_or)
  have g4 := kI_d hd
  rw [kI_good g4] at hq hx
  obtain ⟨t1, rfl, ht1⟩ := hill_of W.G.h1 g4
  rw [hv g ws s1 t1 W rfl hs1 rfl ht1] at hq
  replace hq : Ret (cfg0 e.T F H) Q (.d (meanD (delL g ws s1 t1))) := hq
  have hln := del_len g ws s1 t1
  obtain ⟨tp, t8⟩ := turn_pos W.ok
  refine WS.nx (ws_nox ?_)
  refine ws_cons (w_setZ 4 nd (eu_call (cal_delays T) passL hr (ea_cons (ed_name 0 rfl) (ea_cons (ed_name 1 rfl) (ea_cons (ed_name 2 rfl) (ea_cons (ed_name 3 rfl) ea_nil)))) (del_good W hs1 ht1) (fun _ z => by cases z)) ?_)
  generalize delL g ws s1 t1 = rows at hq hln ⊢
  show WS _ _ [.d (eN g), .d (eWs ws), .d (nD s1), .d (nD t1), .z (rows.map oN), .un, .un, .un] _ _
  refine ws_cons (w_if (k := decide (none ∈ rows)) (ET.cast (ec_in ed_non (ED.tq (ed_nameZ 4 rfl)) rfl (flat_oN rows)).et (inD_none rows)) (fun hk => ?_) (fun hk => ws_nil ?_))
  · unfold meanD at hq
    rw [if_pos (of_decide_eq_true hk)] at hq
    exact ws_one (w_ret ed_non hq)
  · have hn := of_decide_eq_false hk
    unfold meanD at hq
    rw [if_neg hn] at hq
    have hl := vals_len hn
    rw [vals_map hn]
    have elen : ∀ δ : List Sd, δ[4]? = some (.z ((valsOf rows).map nD)) → ∀ p1 p2 p3, ED (e.cxN NMe "mean_delay" stMeanDelay f A outer s H E) (cfg0 e.T F H) δ (.Call (.Name "len" p1) [.Name "rows" p2] [] p3) (nD rows.length) := fun δ hδ p1 p2 p3 => edC (ed_len (ED.tq (ed_nameZ 4 hδ)) T.bLen) (by rw [List.length_map, hl]; rfl)
    generalize valsOf rows = vs at hq hl elen ⊢
    generalize hS : vs.sum = S at hq ⊢
    show WS _ _ [.d (eN g), .d (eWs ws), .d (nD s1), .d (nD t1), .z (vs.map nD), .un, .un, .un] _ _
    refine ws_cons (w_set 5 (d := nD S) nd (ED.cast (ed_sumT (ns := iN vs) (ED.cast (ed_nameZ 4 rfl) (by rw [iN_map])) rfl T.bSum) (by rw [sum_iN, hS]; rfl)) ?_)
    refine ws_cons (w_set 6 (d := nD S) nd (ed_name 5 rfl) ?_)
    refine ws_cons (w_set 7 (d := nD rows.length) nd (elen _ rfl _ _ _) ?_)
    refine ws_cons (w_while .never (fun m δ => ∃ a b, (0 < a ∨ 0 < b) ∧ Nat.gcd a b = Nat.gcd S rows.length ∧ m = b ∧ δ = [.d (eN g), .d (eWs ws), .d (nD s1), .d (nD t1), .z (vs.map nD), .d (nD S), .d (nD a), .d (nD b)]) rows.length ⟨S, rows.length, .inr (by omega), rfl, rfl, rfl⟩ ?_)
    rintro m δ2 ⟨a, b, hab, hg, rfl, rfl⟩
    refine ⟨_, (ec_gt (ed_name 7 rfl) ed_int).et, fun hk => ?_, fun hk => ?_⟩
    · have hb0 : 0 < m := by have := of_decide_eq_true hk; omega
      refine ws_one (w_par2 6 7 nd rfl (EA.mm (ea_cons (ed_name 7 rfl) (ea_cons (ed_mod (ed_name 6 rfl) (ed_name 7 rfl) (by omega)) ea_nil)) ⟨_, _, rfl, ?_⟩))
      exact nx_again (m' := a % m) (I := fun m δ => ∃ a b, (0 < a ∨ 0 < b) ∧ Nat.gcd a b = Nat.gcd S rows.length ∧ m = b ∧ δ = [.d (eN g), .d (eWs ws), .d (nD s1), .d (nD t1), .z (vs.map nD), .d (nD S), .d (nD a), .d (nD b)]) (Nat.mod_lt a hb0) ⟨m, a % m, .inl hb0, by rw [← hg, Nat.gcd_comm a m, Nat.gcd_rec m a, Nat.gcd_comm], rfl, rfl⟩
    · have hb0 : m = 0 := by have := of_decide_eq_false hk; omega
      subst hb0
      rw [Nat.gcd_zero_right] at hg
      show WS _ _ _ _ _
      have hga : 0 < a := by omega
      have ha8 : a ≤ rows.length := by rw [hg]; exact Nat.gcd_le_right _ (by omega)
      rw [← hg] at hq
      refine ws_one (w_ret (ed_tup (ea_cons (edC (ed_fdiv (ed_name 5 rfl) (ed_name 6 rfl) ⟨by omega, by omega⟩) ?_) (ea_cons (edC (ed_fdiv (elen _ rfl _ _ _) (ed_name 6 rfl) ⟨by omega, by omega⟩) ?_) ea_nil))) hq)
      · show PyData.int _ = PyData.int _
        rw [Int.natCast_ediv]
      · show PyData.int _ = PyData.int _
        rw [Int.natCast_ediv]
def rLonger (ds : List D) (r : Res) : Prop := ∃ (rows later : List (Option Nat)) (s : Nat), s < rows.length ∧ 0 < later.length ∧ ds = [.tuple (rows.map oN), .tuple (later.map oN), nD s] ∧ r = .d (.bool (longP rows later s))
theorem cal_longer (T : Top e) : e.Cal CX0 1 "longer_some" ["rows", "later", "start"] rLonger := by
  refine T.longerSome.cal (okN (N := ["rows", "later", "start"]) ⟨rfl, rfl, rfl, by decide +kernel, rfl, by decide +kernel, by decide +kernel⟩ (by rintro ds r ⟨a, b, s, _, _, rfl, rfl⟩; rfl) ?_) fun _ _ _ _ _ _ us hl => match us, hl with | [_, _, _], _ => rfl
  rintro f A outer s H E F ds r Q hr ⟨rows, later, st, h1, h2, rfl, rfl⟩ hq
  have lm : (later.map oN).length = later.length := List.length_map _
  have hm : st % later.length < later.length := Nat.mod_lt _ h2
  have hat : atI (later.map oN) (((st : Nat) : Int) % (((later.map oN).length : Nat) : Int)) = some (oN (later.getD (st % later.length) none)) := by
    rw [lm, ← Int.natCast_emod]
    exact oN_at hm
  refine ws_one (w_ret (ED.cast (ec_ne (e1 := oN (rows.getD st none)) (e2 := oN (later.getD (st % later.length) none)) (ed_ix (ED.tq (ed_name 0 rfl)) (ed_name 2 rfl) (oN_at h1)) (ed_ix (ED.tq (ed_name 1 rfl)) (ed_mod (ed_name 2 rfl) (ed_len (ED.tq (ed_name 1 rfl)) T.bLen) (by rw [lm]; omega)) hat) (scal_oN _ _)).ed ?_) hq)
  rw [eqF_oN]
  unfold longP
  rw [decide_not]
end
end Fs

set_option Elab.async false
set_option linter.all false
set_option maxRecDepth 100000
set_option maxHeartbeats 4000000
/-! Firesseen: needed_watchers; the functions called by names. -/
namespace Fs
open PySem PySem.Spec L2
theorem range_filter_succ (P : Nat → Bool) (i : Nat) : (List.range (i + 1)).filter P = (List.range i).filter P ++ (if P i then [i] else []) := by
  rw [List.range_succ, List.filter_append]
  congr 1
  simp only [List.filter_cons, List.filter_nil]
theorem asleep_cat {ws : List Wt} {i : Nat} : ((ws.map eW).take i ++ [eW [false]]) ++ (ws.map eW).drop (i + 1) = (asleepW ws i).map eW := by
  unfold asleepW
  rw [List.map_append, List.map_append, List.map_take, List.map_drop]
  rfl
section
variable {e : En}
def rNeeded : List D → Res → Prop := rTwo fun g ws s t => .d (.tuple ((needL g ws s t).map nD))
abbrev NNe : List Str := ["net", "watches", "source", "target", "rows", "found", "hill", "asleep", "start"]
theorem ok_needed (T : Top e) : OkF e e.CX 9 "needed_watchers" stNeededWatchers ["net", "watches", "source", "target"] rNeeded := by
  refine okR (N := NNe) ⟨rfl, rfl, rfl, by decide +kernel, rfl, by decide +kernel, by decide +kernel⟩ (by rintro ds r ⟨d, dw, d1, d2, v, rfl, _⟩; rfl) ?_
  rintro f A outer s H E F ds r Q hr ⟨d, dw, d1, d2, v, rfl, hfew, rfl, hv⟩ hq hx
  have nd : NNe.Nodup := by decide +kernel
  have tk : Takes (e.cxR NNe "needed_watchers" stNeededWatchers f A outer s H E) (fun cls d _ H => E cls d H) := takes_of rfl rfl rfl rfl
  refine ws_cons (w_callX (r := kW d dw (.d .none)) (cal_needWatches T) tk (hr.mono (by decide)) (ea_cons (ed_name 0 rfl) (ea_cons (ed_name 1 rfl) ea_nil)) ⟨_, _, rfl, hfew, rfl⟩ (fun x hd => ?_) (wx_kW hx) kW_or)
  obtain ⟨g1, g2⟩ := kW_d hd
  rw [kW_good g1 g2] at hq hx
  obtain ⟨g, ws, W⟩ := good_w g1 g2
  have eh := W.hd
  have ew := W.hw
  subst eh ew
  rw [hOf_eN] at hq hx
  refine ws_cons (w_callX (r := kI 0 ((g.h : Int) - 1) d1 "source" (.d .none)) (cal_needHill T) tk (hr.mono (by decide)) (ea_cons (ed_name 0 rfl) (ea_cons (ed_name 2 rfl) (ea_cons ed_str ea_nil))) ⟨_, _, _, rfl, by decide +kernel, rfl⟩ (fun x hd => ?_) (wx_kI hx) kI_or)
  have g3 := kI_d hd
  rw [kI_good g3] at hq hx
  obtain ⟨s1, rfl, hs1⟩ := hill_of W.G.h1 g3
  refine ws_cons (w_callX (r := kI 0 ((g.h : Int) - 1) d2 "target" (.d .none)) (cal_needHill T) tk (hr.mono (by decide)) (ea_cons (ed_name 0 rfl) (ea_cons (ed_name 3 rfl) (ea_cons ed_str ea_nil))) ⟨_, _, _, rfl, by decide +kernel, rfl⟩ (fun x hd => ?_) (wx_kI hx) kI_or)
  have g4 := kI_d hd
  rw [kI_good g4] at hq hx
  obtain ⟨t1, rfl, ht1⟩ := hill_of W.G.h1 g4
  rw [hv g ws s1 t1 W rfl hs1 rfl ht1] at hq
  replace hq : Ret (cfg0 e.T F H) Q (.d (.tuple ((needL g ws s1 t1).map nD))) := hq
  have hln := del_len g ws s1 t1
  have h9 := W.G.h9
  obtain ⟨tp, t8⟩ := turn_pos W.ok
  refine WS.nx (ws_nox ?_)
  refine ws_cons (w_setZ 4 nd (eu_call (cal_delays T) passL (hr.mono (by decide)) (ea_cons (ed_name 0 rfl) (ea_cons (ed_name 1 rfl) (ea_cons (ed_name 2 rfl) (ea_cons (ed_name 3 rfl) ea_nil)))) (del_good W hs1 ht1) (fun _ z => by cases z)) ?_)
  refine ws_cons (w_setL 5 (ds := []) nd (el_lst ea_nil) ?_)
  unfold needL at hq
  have hP : ∀ i, needP g ws s1 t1 i = (!decide (i ∈ [s1, t1]) && (List.range (delL g ws s1 t1).length).any (longP (delL g ws s1 t1) (delL g (asleepW ws i) s1 t1))) := fun _ => rfl
  generalize needP g ws s1 t1 = P at hq hP
  generalize delL g ws s1 t1 = rows at hln hP ⊢
  show WS _ _ [.d (eN g), .d (eWs ws), .d (nD s1), .d (nD t1), .z (rows.map oN), .l [], .un, .un, .un] _ _
  refine ws_cons (w_for .never rfl (ei_range1 (ed_ix (ED.tq (ed_name 0 rfl)) ed_int net0) (by constructor <;> omega) T.bRange) (fun i δ => ∃ a b c, δ = [.d (eN g), .d (eWs ws), .d (nD s1), .d (nD t1), .z (rows.map oN), .l (((List.range i).filter P).map nD), a, b, c] ∧ a = .un ∧ b = .un ∧ c = .un) ⟨_, _, _, rfl, rfl, rfl, rfl⟩ ?_ ?_)
  · rintro i y δ1 hy ⟨_, _, _, rfl, rfl, rfl, rfl⟩ Fp hFp
    obtain ⟨hi, rfl⟩ := rng_getN (n := g.h) (by rw [show (((g.h : Nat) : Int)).toNat = g.h by omega] at hy; exact hy)
    have hfl : ((List.range i).filter P).length ≤ 9 := by
      have := List.length_filter_le P (List.range i)
      rw [List.length_range] at this
      omega
    have fin : ∀ l : List Nat, l = (List.range (i + 1)).filter P → ∀ x1 : Sd, Nx ((cfg0 e.T F H).pin Fp) [.d (eN g), .d (eWs ws), .d (nD s1), .d (nD t1), .z (rows.map oN), .l (l.map nD), .d (nD i), x1, .un] (fun σ H' => ∃ F' δ3, (∃ a b c, δ3 = [.d (eN g), .d (eWs ws), .d (nD s1), .d (nD t1), .z (rows.map oN), .l (((List.range (i + 1)).filter P).map nD), a, b, c] ∧ a = .un ∧ b = .un ∧ c = .un) ∧ Sta ((cfg0 e.T F H).pin Fp) F' H' σ δ3) := fun l hl x1 => by
      subst hl
      exact (nx_next (t := i + 1) (I := fun i δ => ∃ a b c, δ = [.d (eN g), .d (eWs ws), .d (nD s1), .d (nD t1), .z (rows.map oN), .l (((List.range i).filter P).map nD), a, b, c] ∧ a = .un ∧ b = .un ∧ c = .un) ⟨_, _, _, rfl, rfl, rfl, rfl⟩).wk
    refine ⟨_, _, eg_name 6 nd, ?_⟩
    refine ws_one (w_if (k := !decide (i ∈ [s1, t1])) (ET.cast (ec_notIn (ed_name 6 rfl) (ED.tq (ed_tup (ea_cons (ed_name 2 rfl) (ea_cons (ed_name 3 rfl) ea_nil)))) rfl (flat_nats [s1, t1])).et (by rw [show [nD s1, nD t1] = [s1, t1].map nD from rfl, inD_nat])) (fun hk => ?_) (fun hk => ws_nil ?_))
    · have hPi := hP i
      rw [hk, Bool.true_and] at hPi
      obtain ⟨al, aok⟩ := asleep_ok W.len W.ok hi
      have WA : GoodW (eN g) (eWs (asleepW ws i)) g (asleepW ws i) := ⟨rfl, W.G, rfl, al, aok⟩
      obtain ⟨ap, a8⟩ := turn_pos aok
      have hwl := W.len
      have hlm : (ws.map eW).length = ws.length := List.length_map _
      refine ws_cons (w_set 7 (d := eWs (asleepW ws i)) nd (edC (ed_catT (ed_catT (ed_slT (ed_name 1 rfl) eo_none (eo_some (ed_name 6 rfl))) (ed_tup (ea_cons (ed_tup (ea_cons ed_bl ea_nil)) ea_nil)) ?_) (ed_slT (ed_name 1 rfl) (eo_some (ed_add (ed_name 6 rfl) ed_int)) eo_none) ?_) ?_) ?_)
      · rw [cut_to (by omega), List.length_take, szl]
        show _ + 1 ≤ _
        omega
      · rw [cut_to (by omega), show ((i : Nat) : Int) + 1 = ((i + 1 : Nat) : Int) by omega, cut_from (by omega), List.length_append, List.length_take, List.length_drop, szl]
        show _ + 1 + _ ≤ _
        omega
      · rw [cut_to (by omega), show ((i : Nat) : Int) + 1 = ((i + 1 : Nat) : Int) by omega, cut_from (by omega)]
        show PyData.tuple (((ws.map eW).take i ++ [eW [false]]) ++ (ws.map eW).drop (i + 1)) = .tuple ((asleepW ws i).map eW)
        rw [asleep_cat]
      · show WS _ _ [.d (eN g), .d (eWs ws), .d (nD s1), .d (nD t1), .z (rows.map oN), .l (((List.range i).filter P).map nD), .d (nD i), .d (eWs (asleepW ws i)), .un] _ _
        have hlater := del_len g (asleepW ws i) s1 t1
        refine ws_one (w_if (k := P i) (ET.cast (et_val (ed_anyL (bs := (List.range rows.length).map (longP rows (delL g (asleepW ws i) s1 t1))) (ER.cast (EL.r (el_lc (own := [("start", 8)]) (b := fun _ => true) (f := fun x => .bool (longP rows (delL g (asleepW ws i) s1 t1) (natD x))) (ds := (List.range rows.length).map nD) (blkOk_by (N := NNe) (sc := defScope stNeededWatchers) (by decide +kernel)) rfl nd (EIF.cast (ei_range1 (ed_len (ED.tq (ed_nameZ 4 rfl)) T.bLen) ?_ T.bRange) ?_).toC ?_ (fun x hx s H C cl fp => eg_name 8 nd) (fun x hx s H C cl fp => eps_nil) (fun x hx _ s H C cl fp => ?_))) ?_) rfl T.bAny)) ?_) (fun hk2 => ?_) (fun hk2 => ws_nil ?_))
        · rw [List.length_map]
          constructor <;> omega
        · rw [List.length_map, show (((rows.length : Nat) : Int)).toNat = rows.length by omega, rng_eq]
        · rw [List.length_map, List.length_range, szl]
          omega
        · obtain ⟨st, hst, rfl⟩ := List.mem_map.mp hx
          have hst := List.mem_range.mp hst
          exact ed_call (cal_longer T) pass0 (hr.mono (by decide)) (ea_cons (ed_nameZ 4 rfl) (ea_cons (EU.edz (eu_call (cal_delays T) passL hr (ea_cons (ed_name 0 rfl) (ea_cons (ed_name 7 rfl) (ea_cons (ed_name 2 rfl) (ea_cons (ed_name 3 rfl) ea_nil)))) (del_good WA hs1 ht1) (fun _ z => by cases z))) (ea_cons (ed_name 8 rfl) ea_nil))) ⟨rows, _, st, hst, by omega, rfl, rfl⟩
        · rw [lc_map nD _ (fun st => PyData.bool (longP rows (delL g (asleepW ws i) s1 t1) st)) (fun st => by rw [natD_nD]), List.map_map]
          rfl
        · rw [hPi, List.any_map]
          rfl
        · refine ws_one (w_append 5 rfl (ed_name 6 rfl) ?_ ?_)
          · rw [List.length_map, szl]
            omega
          · have e9 : ((List.range i).filter P).map nD ++ [nD i] = ((List.range i).filter P ++ [i]).map nD := by rw [List.map_append]; rfl
            rw [e9]
            exact fin _ (by rw [range_filter_succ, hk2]; rfl) _
        · exact fin _ (by rw [range_filter_succ, hk2]; simp) _
    · have hPi := hP i
      rw [hk, Bool.false_and] at hPi
      exact fin _ (by rw [range_filter_succ, hPi]; simp) _
  · rintro δ1 ⟨_, _, _, rfl, rfl, rfl, rfl⟩
    have e9 : (rngD 0 (((g.h : Nat) : Int)).toNat).length = g.h := by rw [rng_len]; omega
    show WS _ _ _ _ _
    rw [e9]
    exact ws_one (w_ret (ed_tuple (er_name 5 rfl) T.bTuple) hq)
/-! by position, by names -/
theorem cal_arrivals (T : Top e) : e.Cal e.CX 8 "arrivals" ["net", "watches", "source", "start"] rArrivals := T.arrivals.cal (ok_arrivals T) fun _ _ _ _ _ _ us hl => match us, hl with | [_, _, _, _], _ => rfl
theorem cal_worst (T : Top e) : e.Cal e.CX 9 "worst_delay" ["net", "watches", "source", "target"] rWorst := T.worstDelay.cal (ok_worst T) fun _ _ _ _ _ _ us hl => match us, hl with | [_, _, _, _], _ => rfl
theorem cal_mean (T : Top e) : e.Cal e.CX 9 "mean_delay" ["net", "watches", "source", "target"] rMean := T.meanDelay.cal (ok_mean T) fun _ _ _ _ _ _ us hl => match us, hl with | [_, _, _, _], _ => rfl
theorem cal_needed (T : Top e) : e.Cal e.CX 9 "needed_watchers" ["net", "watches", "source", "target"] rNeeded := T.neededWatchers.cal (ok_needed T) fun _ _ _ _ _ _ us hl => match us, hl with | [_, _, _, _], _ => rfl
theorem calN_arrivals (T : Top e) : e.CalN e.CX 8 "arrivals" 3 ["start"] ["net", "watches", "source", "start"] rArrivals := T.arrivals.calN (ok_arrivals T) fun _ _ _ _ _ _ us ws hl hl2 => match us, ws, hl, hl2 with | [_, _, _], [_], _, _ => rfl
theorem calN_delays (T : Top e) : e.CalN e.CX 8 "delays" 3 ["target"] ["net", "watches", "source", "target"] rDelays := T.delays.calN (ok_delays T) fun _ _ _ _ _ _ us ws hl hl2 => match us, ws, hl, hl2 with | [_, _, _], [_], _, _ => rfl
theorem calN_worst (T : Top e) : e.CalN e.CX 9 "worst_delay" 3 ["target"] ["net", "watches", "source", "target"] rWorst := T.worstDelay.calN (ok_worst T) fun _ _ _ _ _ _ us ws hl hl2 => match us, ws, hl, hl2 with | [_, _, _], [_], _, _ => rfl
theorem calN_mean (T : Top e) : e.CalN e.CX 9 "mean_delay" 3 ["target"] ["net", "watches", "source", "target"] rMean := T.meanDelay.calN (ok_mean T) fun _ _ _ _ _ _ us ws hl hl2 => match us, ws, hl, hl2 with | [_, _, _], [_], _, _ => rfl
theorem calN_needed (T : Top e) : e.CalN e.CX 9 "needed_watchers" 3 ["target"] ["net", "watches", "source", "target"] rNeeded := T.neededWatchers.calN (ok_needed T) fun _ _ _ _ _ _ us ws hl hl2 => match us, ws, hl, hl2 with | [_, _, _], [_], _, _ => rfl
end
end Fs


set_option Elab.async false
set_option linter.all false
set_option maxRecDepth 100000
set_option maxHeartbeats 4000000
/-! Firesseen: the law's dice. -/
namespace Fs
open PySem PySem.Spec L2
structure Dc where
  a : Int
  b : Int
  c : Int
def eDc (s : Dc) : List D := [.int s.a, .int s.b, .int s.c]
/-- k: so many rolls at most -/
structure Dc.Ok (s : Dc) (k : Nat) : Prop where
  b0 : 0 ≤ s.b
  b1 : s.b < 2147480009
  c0 : 0 ≤ s.c
  c1 : s.c ≤ k
theorem eDc_inj {s t : Dc} (h : eDc s = eDc t) : s = t := by
  obtain ⟨a, b, c⟩ := s
  obtain ⟨a', b', c'⟩ := t
  unfold eDc at h
  injection h with h1 h
  injection h with h2 h
  injection h with h3 _
  injection h1 with h1
  injection h2 with h2
  injection h3 with h3
  dsimp only at h1 h2 h3
  rw [h1, h2, h3]
def preRoll (xs ds : List D) : Prop := ∃ s n k, xs = eDc s ∧ ds = [.int n] ∧ s.Ok k ∧ k ≤ 1000000 ∧ 0 < n ∧ n < 1000000
def rRoll (xs ds : List D) (r : Res) (xs' : List D) : Prop := ∃ s s' n v, xs = eDc s ∧ ds = [.int n] ∧ xs' = eDc s' ∧ (∀ k, s.Ok k → s'.Ok (k + 1)) ∧ 0 ≤ v ∧ v < n ∧ r = .d (.int v)
section
variable {e : En}
abbrev NRoll : List Str := ["dice", "many", "found"]
theorem cal_roll (T : Top e) : e.CalM CX0 1 "_law_roll" ["dice", "many"] preRoll rRoll := by
  refine T.lawRoll.calM (okM (N := NRoll) ⟨rfl, rfl, rfl, by decide +kernel, rfl, by decide +kernel, by decide +kernel⟩ (by rintro xs ds ⟨s, n, k, _, rfl, _⟩; rfl) ?_) fun _ _ _ _ _ _ us hl => match us, hl with | [_, _], _ => rfl
  rintro f A outer s H E F a xs ds Q hr ⟨st, n, k, rfl, rfl, ok, hk, hn0, hn1⟩ hMx hq
  have nd : NRoll.Nodup := by decide +kernel
  have q0 : ∀ s : Dc, atI (eDc s) 0 = some (.int s.a) := fun _ => rfl
  have q1 : ∀ s : Dc, atI (eDc s) 1 = some (.int s.b) := fun _ => rfl
  have q2 : ∀ s : Dc, atI (eDc s) 2 = some (.int s.c) := fun _ => rfl
  refine ws_cons (w_if (ec_gt (ed_ix (eq_nameM 0 rfl) ed_int (q0 st)) ed_int).et (fun hk1 => ?_) (fun hk1 => ws_nil ?_))
  · refine ws_cons (w_set 2 nd (ed_mod (ed_int1 (ed_ix (eq_nameM 0 rfl) ed_int (q0 st)) T.bInt) (ed_name 1 rfl) hn0) ?_)
    refine ws_cons (w_storeM 0 (jj := 0) rfl (ed_fdiv (ed_ix (eq_nameM 0 rfl) ed_int (q0 st)) (ed_name 1 rfl) ⟨hn0, by omega⟩) ed_int rfl ?_)
    refine ws_one (w_retM 0 (ED.mm (ed_name 2 rfl) ?_) hq)
    refine ⟨_, rfl, st, ⟨st.a / n, st.b, st.c⟩, n, st.a % n, rfl, rfl, rfl, fun k h => ⟨h.b0, h.b1, h.c0, ?_⟩, Int.emod_nonneg _ (by omega), Int.emod_lt_of_pos _ hn0, rfl⟩
    have := h.c1
    show st.c ≤ _
    omega
  · have b0 := ok.b0
    have b1 := ok.b1
    have c0 := ok.c0
    have c1 := ok.c1
    show WS _ _ _ _ _
    refine ws_cons (w_storeM 0 (jj := 2) rfl (ed_add (ed_ix (eq_nameM 0 rfl) ed_int (q2 st)) ed_int) ed_int rfl ?_)
    show WS _ _ [.m a (eDc ⟨st.a, st.b, st.c + 1⟩), .d (.int n), .un] _ _
    refine ws_cons (w_storeM 0 (jj := 1) rfl (ed_mod (ed_int1 (ed_add (ed_add (ed_mul (ed_ix (eq_nameM 0 rfl) ed_int (q1 _)) ed_int ?_) (ed_mul (ed_mul (ed_ix (eq_nameM 0 rfl) ed_int (q2 _)) (ed_ix (eq_nameM 0 rfl) ed_int (q2 _)) ?_) ed_int ?_)) ed_int) T.bInt) ed_int ?_) ed_int rfl ?_)
    · left; constructor <;> (show _ < _; dsimp only; omega)
    · left; constructor <;> (dsimp only; omega)
    · right; constructor <;> omega
    · omega
    generalize hb : (st.b * 52501 + (st.c + 1) * (st.c + 1) * 1009 + 77) % 2147480009 = b'
    have hb0 : 0 ≤ b' := by rw [← hb]; exact Int.emod_nonneg _ (by omega)
    have hb1 : b' < 2147480009 := by rw [← hb]; exact Int.emod_lt_of_pos _ (by omega)
    show WS _ _ [.m a (eDc ⟨st.a, b', st.c + 1⟩), .d (.int n), .un] _ _
    refine ws_one (w_retM 0 (ED.mm (ed_mod (ed_int1 (ed_fdiv (ed_ix (eq_nameM 0 rfl) ed_int (q1 _)) ed_int ⟨by omega, by omega⟩) T.bInt) (ed_name 1 rfl) hn0) ?_) hq)
    refine ⟨_, rfl, st, ⟨st.a, b', st.c + 1⟩, n, _, rfl, rfl, rfl, fun k h => ⟨hb0, hb1, ?_, ?_⟩, Int.emod_nonneg _ (by omega), Int.emod_lt_of_pos _ hn0, rfl⟩
    · show 0 ≤ st.c + 1
      have := h.c0
      omega
    · show st.c + 1 ≤ _
      have := h.c1
      omega
end
end Fs

set_option Elab.async false
set_option linter.all false
set_option maxRecDepth 100000
set_option maxHeartbeats 4000000
/-! Firesseen: the law's pick, its dice made, its refusals. -/
namespace Fs
open PySem PySem.Spec L2
def prePick (xs ds : List D) : Prop := ∃ s k ts, xs = eDc s ∧ ds = [.list ts] ∧ s.Ok k ∧ k ≤ 1000000 ∧ 0 < ts.length ∧ ts.length < 1000000
def rPick (xs ds : List D) (r : Res) (xs' : List D) : Prop := ∃ s s' ts d, xs = eDc s ∧ ds = [.list ts] ∧ xs' = eDc s' ∧ (∀ k, s.Ok k → s'.Ok (k + 1)) ∧ d ∈ ts ∧ r = .d d
section
variable {e : En}
theorem cal_pick (T : Top e) : e.CalM CX0 2 "_law_pick" ["dice", "things"] prePick rPick := by
  refine T.lawPick.calM (okM (N := ["dice", "things"]) ⟨rfl, rfl, rfl, by decide +kernel, rfl, by decide +kernel, by decide +kernel⟩ (by rintro xs ds ⟨s, k, ts, _, rfl, _⟩; rfl) ?_) fun _ _ _ _ _ _ us hl => match us, hl with | [_, _], _ => rfl
  rintro f A outer s H E F a xs ds Q hr ⟨st, k, ts, rfl, rfl, ok, hk, hn0, hn1⟩ hMx hq
  refine ws_one (w_retM 0 (em_ix (ED.mm (ed_name 1 rfl) ⟨ts, rfl, em_callM 0 (cal_roll T) pass0 hr rfl List.mem_cons_self (ema_cons (ED.mm (ed_len (ED.lq (ed_name 1 rfl)) T.bLen) (ema_nil ⟨_, rfl, ⟨st, ts.length, k, rfl, rfl, ok, hk, by omega, by omega⟩, ?_⟩)))⟩)) hq)
  rintro r xs' ⟨s1, s2, n, v, h1, h2, rfl, h4, h5, h6, rfl⟩
  cases eDc_inj h1
  injection h2 with h2 _
  injection h2 with h2
  subst h2
  obtain ⟨w, rfl⟩ : ∃ w : Nat, v = w := ⟨v.toNat, by omega⟩
  have hw : w < ts.length := by omega
  exact ⟨_, rfl, _, rfl, ts[w], atI_nat (List.getElem?_eq_getElem hw), _, rfl, st, s2, ts, _, rfl, rfl, rfl, h4, List.getElem_mem _, rfl⟩
/-- a choice is made by dice, the dice in slot m -/
theorem em_roll {X : Cx} {c : Cfg} {δ : List Sd} {p p2 pos : Pos} {y : Str} {ad : Addr} {k : Nat} {K : D → List Sd → Prop} {st : Dc} (m : Nat) (C : Cal X.prog X.w X.K X.mg X.base CX0 1 "_law_roll" ["dice", "many"] (spM c.T preRoll rRoll)) (hr : Room 1 X.A) {a : Expr} (hδ : δ[m]? = some (.m ad (eDc st))) (hMx : ad ∈ c.Mx) {n : Int} (ok : st.Ok k)
    (ha : ED X c δ a (.int n)) (hk : k ≤ 1000000) (hn : 0 < n) (hn2 : n < 1000000) (hK : ∀ v st', 0 ≤ v → v < n → st'.Ok (k + 1) → K (.int v) (δ.set m (.m ad (eDc st'))))
    (hN : X.N[m]? = some y := by rfl) (hv : Vis X.env.scope y := by first | exact Or.inl rfl | exact Or.inr (Or.inl rfl) | exact Or.inr (Or.inr rfl)) (hd : (y == ("__debug__" : Str)) = false := by decide) (hcd : (y == ("__classdict__" : Str)) = false := by decide)
    (hg : Gl X "_law_roll" := by rfl) (he1 : starEach (a :: []) X.env = (false, eval a X.env) :: starEach [] X.env := by rfl) (he : starEach (.Name y p2 :: [a]) X.env = (false, eval (.Name y p2) X.env) :: starEach [a] X.env := by rfl) (hpl : (backTo pos (starEach [a] X.env)).any (·.1) = false := by rfl) :
    EM X c δ (.Call (.Name "_law_roll" p) [.Name y p2, a] [] pos) K := by
  refine em_callM m C pass0 hr hδ hMx (ema_cons (ED.mm ha (ema_nil ⟨_, hδ, ⟨st, n, k, rfl, rfl, ok, hk, hn, hn2⟩, ?_⟩)) he1) hN hv hd hcd hg (by decide) he hpl
  rintro r xs' ⟨s1, s2, n', v, h1, h2, rfl, h4, h5, h6, rfl⟩
  cases eDc_inj h1
  injection h2 with h2 _
  injection h2 with h2
  subst h2
  exact ⟨_, rfl, hK v s2 h5 h6 (h4 k ok)⟩
/-! the dice made -/
def ownOf (ns : List Int) (spot : Nat) : Int := (ns[spot]?).getD (733 * spot + 29)
def mixStep (m : Int) (x : Int) : Int := (m * 48271 + x % 2147480009) % 2147480009
def diceOf (ns : List Int) (spot : Nat) : Dc := ⟨if (decide (ownOf ns spot < 0) || decide (10 ^ 16 ≤ ownOf ns spot)) = true then (if ownOf ns spot < 0 then -ownOf ns spot else ownOf ns spot) else 0, (ns.take 6 ++ [ownOf ns spot]).foldl mixStep (940007 + 7907 * spot), 0⟩
theorem mix_ok : ∀ (l : List Int) (m : Int), l ≠ [] → 0 ≤ l.foldl mixStep m ∧ l.foldl mixStep m < 2147480009
  | [], _, h => absurd rfl h
  | [x], m, _ => ⟨Int.emod_nonneg _ (by omega), Int.emod_lt_of_pos _ (by omega)⟩
  | x :: y :: r, m, _ => mix_ok (y :: r) (mixStep m x) (by simp)
theorem dice_ok (ns : List Int) (spot : Nat) : (diceOf ns spot).Ok 0 := by
  obtain ⟨h1, h2⟩ := mix_ok (ns.take 6 ++ [ownOf ns spot]) (940007 + 7907 * spot) (by simp)
  exact ⟨h1, h2, Int.le_refl _, Int.le_refl _⟩
/-- a list with the script -/
def spDice (K : PySem.W.Frag) (T : List (Addr × Option Str)) : Sp := fun vs H Q _ => ∃ F a ns spot, vs = [V.ref a, V.int (spot : Nat)] ∧ Tb T H ∧ Fz F H ∧ SqL K H a (ns.map V.int) ∧ spot < 1000 ∧ ns.length < 1000000 ∧
  ∀ v F' H', Stp T [] F H F' H' → Post H F' H' v (.l (eDc (diceOf ns spot))) → Q v H'
theorem EDcast {X : Cx} {c : Cfg} {δ : List Sd} {e : Expr} {d d' : D} (h : ED X c δ e d) (q : d = d') : ED X c δ e d' := q ▸ h
theorem staV {T : List (Addr × Option Str)} {F H : Hp} {σ : L2.St} {δ : List Sd} {c : Cfg} (S : Sta c F H σ δ) (i : Nat) {v : V} (hi : σ[i]? = some (some v)) (hl : i < δ.length) : Sta c F H σ (δ.set i (.v v)) := by
  have e : σ.set i (some v) = σ := by
    refine List.ext_getElem? fun j => ?_
    by_cases h : i = j
    · subst h
      rw [List.getElem?_set_self (by rw [S.sl.len]; exact hl), hi]
    · rw [List.getElem?_set_ne h]
  have := S.set i (s := some v) (x := .v v) rfl rfl
  rw [e] at this
  exact this
theorem cut_take (ns : List Int) : cutD (ns.map .int) none (some 6) = (ns.take 6).map .int := by
  have e : HT.sIx (ns.map PyData.int).length (ns.map PyData.int).length (some 6) = min 6 ns.length := by
    rw [List.length_map]
    unfold HT.sIx
    simp
    try omega
  unfold cutD
  rw [e]
  show (List.drop 0 _).take (min 6 ns.length - 0) = _
  rw [List.drop_zero, Nat.sub_zero, ← List.map_take]
  congr 1
  rcases Nat.le_total 6 ns.length with h | h
  · rw [Nat.min_eq_left h]
  · rw [Nat.min_eq_right h, List.take_of_length_le (Nat.le_refl _), List.take_of_length_le h]
theorem cal_dice (T : Top e) : Cal e.P e.w e.K e.mg e.base CX0 1 "_law_dice" ["script", "spot"] (spDice e.K e.T) := by
  obtain ⟨f, fd, h1, h2, h3⟩ := T.lawDice.ex
  refine ⟨f, fd, h2, h1.kp, FunD.bindsN h1 (fun _ _ _ _ _ _ us hl => match us, hl with | [_, _], _ => rfl), ?_⟩
  obtain ⟨oc, od, dV, kV, doc, pm, an, cdv, ct, osl, rfl, lk, hcd, _, _⟩ := h1.ex
  refine fn_of (CX := CX0) (N := ["script", "spot", "own", "mixed", "cell"]) (ps := ["script", "spot"]) lk hcd ⟨rfl, rfl, rfl, by decide +kernel, rfl, by decide +kernel, by decide +kernel⟩ (fun vs H Q E ⟨_, _, _, _, e1, _⟩ => by rw [e1]; rfl) fun A outer s H vs Q E hr hsp => ?_
  obtain ⟨F, a, ns, spot, rfl, hT, hF, hS, hsp, hns, hq⟩ := hsp
  have nd : (["script", "spot", "own", "mixed", "cell"] : List Str).Nodup := by decide +kernel
  refine ⟨_, PSs.nox (sSs _), ?_⟩
  have S0 : Sta (cfg0 e.T F H) F H (L2.start ["script", "spot", "own", "mixed", "cell"] [V.ref a, V.int (spot : Nat)]) [.v (.ref a), .d (nD spot), .un, .un, .un] := by
    refine ⟨Stp.refl hF hT, Sub.refl F, rfl, fun i y e => ?_, fun i j x y p hij e1 e2 o1 o2 s1 => ?_⟩
    · match i, e with
      | 0, e => cases e; rfl
      | 1, e => cases e; exact ⟨_, rfl, .int _⟩
      | 2, e => cases e; trivial
      | 3, e => cases e; trivial
      | 4, e => cases e; trivial
      | n + 5, e => simp at e
    · match i, e1 with
      | 0, e => cases e; cases o1
      | 1, e => cases e; cases o1
      | 2, e => cases e; cases o1
      | 3, e => cases e; cases o1
      | 4, e => cases e; cases o1
      | n + 5, e => simp at e
  refine (show WS ((cxOf CX0 e.P e.w e.K e.mg e.base ["script", "spot", "own", "mixed", "cell"] "_law_dice" (defScope stLawDice) f cdv A outer s H E).nox) (cfg0 e.T F H) [.v (.ref a), .d (nD spot), .un, .un, .un] (defBody stLawDice) (fin Q) from ?_) F H _ S0
  have hS' : SqL e.K (cfg0 e.T F H).H0 a (ns.map V.int) := hS
  have nm : a ∉ (cfg0 e.T F H).Mx := fun z => by cases z
  refine ws_cons (w_set 2 (d := .int (ownOf ns spot)) nd (ed_ifc (ec_lt (ed_name 1 rfl) (ed_lenS hS' nm (ev_name 0 rfl) T.bLen)).et (fun hk => ?_) (fun hk => ?_)) ?_)
  · have hlt : spot < ns.length := by
      have := of_decide_eq_true hk
      omega
    refine ed_ixS hS' nm (ev_name 0 rfl) (ed_name 1 rfl) ?_
    unfold ownOf
    rw [List.getElem?_eq_getElem hlt]
    unfold atI ixN
    simp [hlt]
  · have hge : ns.length ≤ spot := by
      have := of_decide_eq_false hk
      omega
    unfold ownOf
    rw [List.getElem?_eq_none hge]
    refine ed_add (ed_mul ed_int (ed_name 1 rfl) ?_) ed_int
    left; constructor <;> omega
  · generalize ho : ownOf ns spot = own
    refine ws_cons (w_set 3 (d := .int (940007 + 7907 * (spot : Int))) nd (ed_add ed_int (ed_mul ed_int (ed_name 1 rfl) ?_)) ?_)
    · left; constructor <;> omega
    · refine ws_cons (w_for .never rfl (ei_lst (EL.ed (el_cat (EL.r (el_slS hS' nm (ev_name 0 rfl) eo_none (eo_some ed_int))) (EL.r (el_lst (ea_cons (ed_name 2 rfl) ea_nil))) ?_))) (fun i δ => ∃ b, δ = [.v (.ref a), .d (nD spot), .d (.int own), .d (.int (((ns.take 6 ++ [own]).take i).foldl mixStep (940007 + 7907 * (spot : Int)))), b] ∧ b = .un) ⟨_, rfl, rfl⟩ ?_ ?_)
      · rw [cut_take, List.length_map, szl]
        have : (ns.take 6).length ≤ 6 := by rw [List.length_take]; omega
        show _ + 1 ≤ _
        omega
      · rintro i y δ1 hy ⟨_, rfl, rfl⟩ Fp hFp
        rw [cut_take, show (ns.take 6).map PyData.int ++ [PyData.int own] = (ns.take 6 ++ [own]).map PyData.int by rw [List.map_append]; rfl, List.getElem?_map] at hy
        cases hz : (ns.take 6 ++ [own])[i]? with
        | none => rw [hz] at hy; cases hy
        | some x =>
          rw [hz] at hy
          obtain rfl := (Option.some.inj hy).symm
          refine ⟨_, _, eg_name 4 nd, ?_⟩
          refine ws_one (w_set 3 nd (ed_mod (ed_int1 (ed_add (ed_mul (ed_name 3 rfl) ed_int ?_) (ed_mod (ed_int1 (ed_name 4 rfl) T.bInt) ed_int (by omega))) T.bInt) ed_int (by omega)) ?_)
          · right; constructor <;> omega
          · obtain ⟨hi, e1⟩ := List.getElem?_eq_some_iff.mp hz
            have e2 : ((ns.take 6 ++ [own]).take (i + 1)).foldl mixStep (940007 + 7907 * (spot : Int)) = mixStep (((ns.take 6 ++ [own]).take i).foldl mixStep (940007 + 7907 * (spot : Int))) x := by
              rw [← List.take_append_getElem hi, List.foldl_append, e1]
              try rfl
            exact (nx_next (I := fun i δ => ∃ b, δ = [.v (.ref a), .d (nD spot), .d (.int own), .d (.int (((ns.take 6 ++ [own]).take i).foldl mixStep (940007 + 7907 * (spot : Int)))), b] ∧ b = .un) ⟨_, (by rw [e2]; try rfl), rfl⟩).wk
      · rintro δ1 ⟨_, rfl, rfl⟩
        have el : (cutD (ns.map PyData.int) none (some 6) ++ [PyData.int own]).length = (ns.take 6 ++ [own]).length := by rw [cut_take, List.length_append, List.length_map, List.length_append]; rfl
        rw [el, List.take_length]
        show WS _ _ _ _ _
        have hd : eDc (diceOf ns spot) = [.int (if (decide (own < 0) || decide (10 ^ 16 ≤ own)) = true then (if own < 0 then -own else own) else 0), .int ((ns.take 6 ++ [own]).foldl mixStep (940007 + 7907 * (spot : Int))), .int 0] := by
          unfold diceOf eDc
          rw [ho]
        refine ws_one (w_retL (ds := eDc (diceOf ns spot)) ?_ (fun v F' H' s p => hq v F' H' s p))
        rw [hd]
        have e16 : (10 : Int) ^ (16 : Int).toNat = 10 ^ 16 := rfl
        refine el_lst (ea_cons (EDcast (ed_if (k := decide (own < 0) || decide (10 ^ 16 ≤ own)) (EW.et (ew_or (ec_lt (ed_name 2 rfl) ed_int).et fun _ => ew_or1 (e16 ▸ (ec_ge (ed_name 2 rfl) (ed_pow ed_int ed_int ⟨by decide, by decide, by decide⟩)).et))) (fun _ => ed_abs (ed_name 2 rfl) T.bAbs) (fun _ => ed_int)) ?_) (ea_cons (ed_name 3 rfl) (ea_cons ed_int ea_nil)))
        split <;> rfl
end
end Fs

set_option Elab.async false
set_option linter.all false
set_option maxRecDepth 100000
set_option maxHeartbeats 4000000
/-! Firesseen: what burns after a step, plain. -/
namespace Fs
open PySem PySem.Spec L2
def appN (b : Bool) (x : Nat) (f : List Nat) : List Nat := if (b && !decide (x ∈ f)) = true then f ++ [x] else f
def litStep (l : List Nat) (hid : List Ln) (f : List Nat) (p : Ln) : List Nat := if p ∈ hid then f else appN (decide (p.2 ∈ l)) p.1 (appN (decide (p.1 ∈ l)) p.2 f)
def litF (g : Nt) (l : List Nat) (hid : List Ln) : List Nat := g.ls.foldl (litStep l hid) l
/-- is lit -/
def litP (g : Nt) (l : List Nat) (hid : List Ln) (i : Nat) : Bool := decide (i ∈ l) || g.ls.any fun p => !decide (p ∈ hid) && ((decide (p.1 ∈ l) && decide (p.2 = i)) || (decide (p.2 ∈ l) && decide (p.1 = i)))
def litL (g : Nt) (l : List Nat) (hid : List Ln) : List Nat := (List.range g.h).filter (litP g l hid)
theorem appN_mem {b : Bool} {x y : Nat} {f : List Nat} : y ∈ appN b x f ↔ y ∈ f ∨ (b = true ∧ y = x) := by
  unfold appN
  split
  · rename_i h
    rw [Bool.and_eq_true] at h
    rw [List.mem_append, List.mem_singleton]
    constructor
    · rintro (z | z)
      · exact .inl z
      · exact .inr ⟨h.1, z⟩
    · rintro (z | z)
      · exact .inl z
      · exact .inr z.2
  · rename_i h
    constructor
    · exact .inl
    · rintro (z | ⟨z1, z2⟩)
      · exact z
      · subst z1 z2
        simp at h
        exact h
theorem appN_nd {b : Bool} {x : Nat} {f : List Nat} (h : f.Nodup) : (appN b x f).Nodup := by
  unfold appN
  split
  · rename_i hb
    rw [Bool.and_eq_true] at hb
    have hx : x ∉ f := by simpa using hb.2
    refine List.nodup_append.mpr ⟨h, by simp, fun a ha b hb2 e => ?_⟩
    rw [List.mem_singleton] at hb2
    subst e hb2
    exact hx ha
  · exact h
theorem fold_lit {l : List Nat} {hid : List Ln} : ∀ (ps : List Ln) (f : List Nat), (f.Nodup → (ps.foldl (litStep l hid) f).Nodup) ∧ ∀ i, i ∈ ps.foldl (litStep l hid) f ↔ i ∈ f ∨ ∃ p ∈ ps, p ∉ hid ∧ ((p.1 ∈ l ∧ p.2 = i) ∨ (p.2 ∈ l ∧ p.1 = i))
  | [], f => ⟨id, fun i => by simp⟩
  | p :: r, f => by
    obtain ⟨h1, h2⟩ := fold_lit (l := l) (hid := hid) r (litStep l hid f p)
    rw [List.foldl_cons]
    refine ⟨fun h => h1 ?_, fun i => ?_⟩
    · unfold litStep
      split
      · exact h
      · exact appN_nd (appN_nd h)
    · rw [h2]
      have key : i ∈ litStep l hid f p ↔ i ∈ f ∨ (p ∉ hid ∧ ((p.1 ∈ l ∧ p.2 = i) ∨ (p.2 ∈ l ∧ p.1 = i))) := by
        unfold litStep
        split
        · rename_i hp
          exact ⟨.inl, fun z => z.elim id fun z => absurd hp z.1⟩
        · rename_i hp
          rw [appN_mem, appN_mem]
          simp only [decide_eq_true_eq]
          constructor
          · rintro ((z | ⟨z1, z2⟩) | ⟨z1, z2⟩)
            · exact .inl z
            · exact .inr ⟨hp, .inl ⟨z1, z2.symm⟩⟩
            · exact .inr ⟨hp, .inr ⟨z1, z2.symm⟩⟩
          · rintro (z | ⟨_, ⟨z1, z2⟩ | ⟨z1, z2⟩⟩)
            · exact .inl (.inl z)
            · exact .inl (.inr ⟨z1, z2.symm⟩)
            · exact .inr ⟨z1, z2.symm⟩
      rw [key]
      constructor
      · rintro ((z | z) | ⟨q, hq, z⟩)
        · exact .inl z
        · exact .inr ⟨p, List.mem_cons_self, z⟩
        · exact .inr ⟨q, List.mem_cons_of_mem _ hq, z⟩
      · rintro (z | ⟨q, hq, z⟩)
        · exact .inl (.inl z)
        · rcases List.mem_cons.mp hq with rfl | hq
          · exact .inl (.inr z)
          · exact .inr ⟨q, hq, z⟩
theorem litP_iff {g : Nt} {l : List Nat} {hid : List Ln} {i : Nat} : litP g l hid i = true ↔ i ∈ l ∨ ∃ p ∈ g.ls, p ∉ hid ∧ ((p.1 ∈ l ∧ p.2 = i) ∨ (p.2 ∈ l ∧ p.1 = i)) := by
  unfold litP
  simp only [Bool.or_eq_true, decide_eq_true_eq, List.any_eq_true, Bool.and_eq_true, Bool.not_eq_true', decide_eq_false_iff_not]
theorem lit_perm {g : Nt} (G : g.Ok) {l : List Nat} {hid : List Ln} (nd : l.Nodup) (hl : ∀ i ∈ l, i < g.h) : (litL g l hid).Perm (litF g l hid) := by
  obtain ⟨h1, h2⟩ := fold_lit (l := l) (hid := hid) g.ls l
  refine (List.perm_ext_iff_of_nodup (List.nodup_range.sublist List.filter_sublist) (h1 nd)).mpr fun i => ?_
  show i ∈ (List.range g.h).filter (litP g l hid) ↔ i ∈ g.ls.foldl (litStep l hid) l
  rw [h2, List.mem_filter, litP_iff, List.mem_range]
  refine ⟨fun z => z.2, fun z => ⟨?_, z⟩⟩
  rcases z with z | ⟨p, hp, _, ⟨_, rfl⟩ | ⟨_, rfl⟩⟩
  · exact hl i z
  · exact (G.ln p hp).2
  · have := G.ln p hp
    omega
theorem lit_sorted (g : Nt) (l : List Nat) (hid : List Ln) : (litL g l hid).Pairwise (· ≤ ·) := (range_le _).sublist List.filter_sublist
theorem lit_nd (g : Nt) (l : List Nat) (hid : List Ln) : (litL g l hid).Nodup := List.nodup_range.sublist List.filter_sublist
theorem lit_lt {g : Nt} {l : List Nat} {hid : List Ln} {i : Nat} (h : i ∈ litL g l hid) : i < g.h := List.mem_range.mp (List.mem_filter.mp h).1
theorem lit_len (g : Nt) (l : List Nat) (hid : List Ln) : (litL g l hid).length ≤ g.h := by
  have := List.length_filter_le (litP g l hid) (List.range g.h)
  rw [List.length_range] at this
  exact this
theorem nd_len {f : List Nat} {h : Nat} (n : f.Nodup) (l : ∀ x ∈ f, x < h) : f.length ≤ h := by
  have hp : f.Perm ((List.range h).filter fun i => decide (i ∈ f)) := (List.perm_ext_iff_of_nodup n (List.nodup_range.sublist List.filter_sublist)).mpr fun i => by
    rw [List.mem_filter, List.mem_range, decide_eq_true_eq]
    exact ⟨fun z => ⟨l i z, z⟩, fun z => z.2⟩
  rw [hp.length_eq]
  have := List.length_filter_le (fun i => decide (i ∈ f)) (List.range h)
  rw [List.length_range] at this
  exact this
theorem eqv_eP (p q : Ln) : PyData.eqv (eP p) (eP q) = decide (p = q) := by
  obtain ⟨a, b⟩ := p
  obtain ⟨c, d⟩ := q
  rw [Bool.eq_iff_iff]
  simp only [eP, nD, PyData.eqv, PyData.eqvAll, Bool.and_true, Bool.and_eq_true, beq_iff_eq, decide_eq_true_eq, Prod.mk.injEq]
  exact and_congr Int.ofNat_inj Int.ofNat_inj
theorem any_eP (p : Ln) (ps : List Ln) : ((ps.map eP).any fun z => PyData.eqv z (eP p)) = decide (p ∈ ps) := by
  rw [List.any_map, Bool.eq_iff_iff, List.any_eq_true, decide_eq_true_eq]
  constructor
  · rintro ⟨q, hq, z⟩
    have z' : PyData.eqv (eP q) (eP p) = true := z
    rw [eqv_eP, decide_eq_true_eq] at z'
    exact z' ▸ hq
  · exact fun h => ⟨p, h, by show PyData.eqv (eP p) (eP p) = true; rw [eqv_eP]; simp⟩
theorem shp_eP (p : Ln) : Shp 1 (eP p) := Shp.tup fun d hd => by
  simp only [List.mem_cons, List.not_mem_nil, or_false] at hd
  rcases hd with rfl | rfl
  · exact shp_int _
  · exact shp_int _
theorem shp_ePs (ps : List Ln) : Shp 2 (.tuple (ps.map eP)) := Shp.tup fun d hd => by
  obtain ⟨p, _, rfl⟩ := List.mem_map.mp hd
  exact shp_eP p
theorem eq_seq {X : Cx} {c : Cfg} {δ : List Sd} {a : Expr} {d : D} {xs : List D} (hl : d = .tuple xs ∨ d = .list xs) (h : ED X c δ a d) : EQ X c δ a xs := by
  rcases hl with rfl | rfl
  · exact h.tq
  · exact h.lq
end Fs

set_option Elab.async false
set_option linter.all false
set_option maxRecDepth 100000
set_option maxHeartbeats 4000000
/-! Firesseen: the law's own net, its own step. -/
namespace Fs
open PySem PySem.Spec L2
section
variable {e : En}
def rLit (ds : List D) (r : Res) : Prop := ∃ (g : Nt) (l : List Nat) (hid : List Ln) (lotD : D), g.Ok ∧ l.Nodup ∧ (∀ i ∈ l, i < g.h) ∧ hid.length ≤ 1000 ∧ (lotD = .tuple (l.map nD) ∨ lotD = .list (l.map nD)) ∧ ds = [eN g, lotD, .tuple (hid.map eP)] ∧ r = .d (eL (litL g l hid))
abbrev NLi : List Str := ["net", "lot", "hidden", "found", "one", "other"]
theorem cal_lit (T : Top e) : e.Cal CX0 1 "_law_lit" ["net", "lot", "hidden"] rLit := by
  refine T.lawLit.cal (okN (N := NLi) ⟨rfl, rfl, rfl, by decide +kernel, rfl, by decide +kernel, by decide +kernel⟩ (by rintro ds r ⟨g, l, hid, d, _, _, _, _, _, rfl, rfl⟩; rfl) ?_) fun _ _ _ _ _ _ us hl => match us, hl with | [_, _, _], _ => rfl
  rintro f A outer s H E F ds r Q hr ⟨g, l, hid, lotD, G, lnd, llt, hh, hlot, rfl, rfl⟩ hq
  have nd : NLi.Nodup := by decide +kernel
  have h9 := G.h9
  have hperm := lit_perm G (hid := hid) lnd llt
  refine ws_cons (w_setL 3 (ds := l.map nD) nd (el_list (eq_seq hlot (ed_name 1 rfl)) T.bList) ?_)
  refine ws_cons (w_for .never rfl (ei_tup (ed_ix (ED.tq (ed_name 0 rfl)) ed_int net1)) (fun i δ => ∃ a b, δ = [.d (eN g), .d lotD, .d (.tuple (hid.map eP)), .l (((g.ls.take i).foldl (litStep l hid) l).map nD), a, b] ∧ a = .un ∧ b = .un) ⟨_, _, rfl, rfl, rfl⟩ ?_ ?_)
  · rintro i y δ1 hy ⟨_, _, rfl, rfl, rfl⟩ Fp hFp
    obtain ⟨p, hp, rfl⟩ := map_get hy
    obtain ⟨hi, ep⟩ := List.getElem?_eq_some_iff.mp hp
    have hpg : p ∈ g.ls := List.mem_of_getElem? hp
    have hst : (g.ls.take (i + 1)).foldl (litStep l hid) l = litStep l hid ((g.ls.take i).foldl (litStep l hid) l) p := by
      rw [← List.take_append_getElem hi, List.foldl_append, ep]
      rfl
    have hnd := (fold_lit (l := l) (hid := hid) (g.ls.take i) l).1 lnd
    have hmem := (fold_lit (l := l) (hid := hid) (g.ls.take i) l).2
    have hlt : ∀ x ∈ (g.ls.take i).foldl (litStep l hid) l, x < g.h := fun x hx => by
      rcases (hmem x).mp hx with z | ⟨q, hq, _, ⟨_, rfl⟩ | ⟨_, rfl⟩⟩
      · exact llt x z
      · exact (G.ln q (List.mem_of_mem_take hq)).2
      · have := G.ln q (List.mem_of_mem_take hq)
        omega
    generalize (g.ls.take i).foldl (litStep l hid) l = f0 at hst hnd hlt ⊢
    have few : ∀ f2 : List Nat, f2.Nodup → (∀ x ∈ f2, x < g.h) → f2.length ≤ 9 := fun f2 n2 l2 => Nat.le_trans (nd_len n2 l2) h9
    refine ⟨_, _, eg_tup rfl (egs_cons (eg_name 4 nd) (egs_cons (eg_name 5 nd) egs_nil)), ?_⟩
    have fin : ∀ f2 : List Nat, f2 = litStep l hid f0 p → Nx ((cfg0 e.T F H).pin Fp) [.d (eN g), .d lotD, .d (.tuple (hid.map eP)), .l (f2.map nD), .d (nD p.1), .d (nD p.2)] (fun σ H' => ∃ F' δ3, (∃ a b, δ3 = [.d (eN g), .d lotD, .d (.tuple (hid.map eP)), .l (((g.ls.take (i + 1)).foldl (litStep l hid) l).map nD), a, b] ∧ a = .un ∧ b = .un) ∧ Sta ((cfg0 e.T F H).pin Fp) F' H' σ δ3) := fun f2 h2 => by
      subst h2
      rw [← hst]
      exact (nx_next (t := i + 1) (I := fun i δ => ∃ a b, δ = [.d (eN g), .d lotD, .d (.tuple (hid.map eP)), .l (((g.ls.take i).foldl (litStep l hid) l).map nD), a, b] ∧ a = .un ∧ b = .un) ⟨_, _, rfl, rfl, rfl⟩).wk
    refine ws_one (w_if (k := !decide (p ∈ hid)) (ET.cast (ec_notInKT (d := eP p) (room_u65 hr) (ed_tup (ea_cons (ed_name 4 rfl) (ea_cons (ed_name 5 rfl) ea_nil))) (ed_name 2 rfl) (shp_eP p).shaped (shp_ePs hid).shaped).et (by rw [any_eP])) (fun hk => ?_) (fun hk => ws_nil ?_))
    · have hk' : p ∉ hid := by simpa using hk
      have hst2 : litStep l hid f0 p = appN (decide (p.2 ∈ l)) p.1 (appN (decide (p.1 ∈ l)) p.2 f0) := if_neg hk'
      have hl0 : f0.length ≤ 9 := few f0 hnd hlt
      refine ws_cons (w_if (k := decide (p.1 ∈ l) && !decide (p.2 ∈ f0)) (EW.et (ew_and (ET.cast (ec_in (ed_name 4 rfl) (eq_seq hlot (ed_name 1 rfl)) rfl (flat_nats l)).et (inD_nat _ _)) fun _ => ew_and1 (ET.cast (ec_notIn (ed_name 5 rfl) (eq_name 3 rfl) rfl (flat_nats f0)).et (by rw [inD_nat])))) (fun hk2 => ?_) (fun hk2 => ws_nil ?_))
      · refine ws_one (w_append 3 rfl (ed_name 5 rfl) (by rw [List.length_map, szl]; omega) ?_)
        rw [show f0.map nD ++ [nD p.2] = (f0 ++ [p.2]).map nD by rw [List.map_append]; rfl]
        have ef : f0 ++ [p.2] = appN (decide (p.1 ∈ l)) p.2 f0 := (if_pos hk2).symm
        have hl1 : (f0 ++ [p.2]).length ≤ 9 := by
          rw [ef]
          refine few _ (appN_nd hnd) fun x hx => ?_
          rcases appN_mem.mp hx with z | ⟨_, z⟩
          · exact hlt x z
          · rw [z]; exact (G.ln p hpg).2
        have h1 := ef
        refine WS.nx ?_
        show WS _ _ [.d (eN g), .d lotD, .d (.tuple (hid.map eP)), .l ((f0 ++ [p.2]).map nD), .d (nD p.1), .d (nD p.2)] _ _
        refine ws_one (w_if (k := decide (p.2 ∈ l) && !decide (p.1 ∈ (f0 ++ [p.2]))) (EW.et (ew_and (ET.cast (ec_in (ed_name 5 rfl) (eq_seq hlot (ed_name 1 rfl)) rfl (flat_nats l)).et (inD_nat _ _)) fun _ => ew_and1 (ET.cast (ec_notIn (ed_name 4 rfl) (eq_name 3 rfl) rfl (flat_nats (f0 ++ [p.2]))).et (by rw [inD_nat])))) (fun hk2 => ?_) (fun hk2 => ws_nil ?_))
        · refine ws_one (w_append 3 rfl (ed_name 4 rfl) (by rw [List.length_map, szl]; omega) ?_)
          rw [show ((f0 ++ [p.2])).map nD ++ [nD p.1] = ((f0 ++ [p.2]) ++ [p.1]).map nD by simp only [List.map_append, List.map_cons, List.map_nil]]
          refine fin _ ?_
          rw [hst2, ← h1]
          exact (if_pos hk2).symm
        · refine fin _ ?_
          rw [hst2, ← h1]
          exact (if_neg (by rw [hk2]; exact Bool.false_ne_true)).symm
      · have h1 : f0 = appN (decide (p.1 ∈ l)) p.2 f0 := (if_neg (by rw [hk2]; exact Bool.false_ne_true)).symm
        refine WS.nx ?_
        show WS _ _ [.d (eN g), .d lotD, .d (.tuple (hid.map eP)), .l (f0.map nD), .d (nD p.1), .d (nD p.2)] _ _
        refine ws_one (w_if (k := decide (p.2 ∈ l) && !decide (p.1 ∈ f0)) (EW.et (ew_and (ET.cast (ec_in (ed_name 5 rfl) (eq_seq hlot (ed_name 1 rfl)) rfl (flat_nats l)).et (inD_nat _ _)) fun _ => ew_and1 (ET.cast (ec_notIn (ed_name 4 rfl) (eq_name 3 rfl) rfl (flat_nats f0)).et (by rw [inD_nat])))) (fun hk2 => ?_) (fun hk2 => ws_nil ?_))
        · refine ws_one (w_append 3 rfl (ed_name 4 rfl) (by rw [List.length_map, szl]; omega) ?_)
          rw [show (f0).map nD ++ [nD p.1] = (f0 ++ [p.1]).map nD by simp only [List.map_append, List.map_cons, List.map_nil]]
          refine fin _ ?_
          rw [hst2, ← h1]
          exact (if_pos hk2).symm
        · refine fin _ ?_
          rw [hst2, ← h1]
          exact (if_neg (by rw [hk2]; exact Bool.false_ne_true)).symm
    · have hk' : p ∈ hid := by simpa using hk
      exact fin f0 (if_pos hk').symm
  · rintro δ1 ⟨_, _, rfl, rfl, rfl⟩
    rw [List.length_map, List.take_length]
    show WS _ _ [.d (eN g), .d lotD, .d (.tuple (hid.map eP)), .l ((litF g l hid).map nD), .un, .un] _ _
    refine ws_one (w_ret (ed_tuple (EL.r (el_sortN (er_name 3 rfl) ?_ hperm (lit_sorted _ _ _) T.bSorted)) T.bTuple) hq)
    rw [← hperm.length_eq]
    have := lit_len g l hid
    omega
end
end Fs

set_option Elab.async false
set_option linter.all false
set_option maxRecDepth 100000
set_option maxHeartbeats 4000000
/-! Firesseen: the law's drawn net. -/
namespace Fs
open PySem PySem.Spec L2
theorem Dc.Ok.up {s : Dc} {j k : Nat} (h : s.Ok j) (hk : j ≤ k) : s.Ok k := ⟨h.b0, h.b1, h.c0, by have := h.c1; omega⟩
theorem Dc.Ok.own {s : Dc} {k : Nat} (h : s.Ok k) : s.Ok s.c.toNat ∧ s.c.toNat ≤ k := by
  have h0 := h.c0
  have h1 := h.c1
  exact ⟨⟨h.b0, h.b1, h.c0, by omega⟩, by omega⟩
/-- lines before (a, b) -/
structure LnInv (h : Nat) (ls : List Ln) (a b : Nat) : Prop where
  pw : ls.Pairwise (fun p q => ltP p q = true)
  ln : ∀ p ∈ ls, p.1 < p.2 ∧ p.2 < h
  lt : ∀ p ∈ ls, ltP p (a, b) = true
theorem LnInv.add {h : Nat} {ls : List Ln} {a b : Nat} (I : LnInv h ls a b) (h1 : a < b) (h2 : b < h) : LnInv h (ls ++ [(a, b)]) a (b + 1) := by
  refine ⟨List.pairwise_append.mpr ⟨I.pw, List.pairwise_singleton _ _, fun p hp q hq => ?_⟩, fun p hp => ?_, fun p hp => ?_⟩
  · rw [List.mem_singleton.mp hq]
    exact I.lt p hp
  · rcases List.mem_append.mp hp with z | z
    · exact I.ln p z
    · rw [List.mem_singleton.mp z]
      exact ⟨h1, h2⟩
  · rcases List.mem_append.mp hp with z | z
    · have := I.lt p z
      unfold ltP at this ⊢
      simp only [Bool.or_eq_true, Bool.and_eq_true, decide_eq_true_eq] at this ⊢
      omega
    · rw [List.mem_singleton.mp z]
      unfold ltP
      simp
theorem LnInv.skip {h : Nat} {ls : List Ln} {a b : Nat} (I : LnInv h ls a b) : LnInv h ls a (b + 1) := ⟨I.pw, I.ln, fun p hp => by
  have := I.lt p hp
  unfold ltP at this ⊢
  simp only [Bool.or_eq_true, Bool.and_eq_true, decide_eq_true_eq] at this ⊢
  omega⟩
theorem LnInv.row {h : Nat} {ls : List Ln} {a b c : Nat} (I : LnInv h ls a b) : LnInv h ls (a + 1) c := ⟨I.pw, I.ln, fun p hp => by
  have := I.lt p hp
  unfold ltP at this ⊢
  simp only [Bool.or_eq_true, Bool.and_eq_true, decide_eq_true_eq] at this ⊢
  omega⟩
theorem LnInv.wide {h : Nat} {ls : List Ln} {a b c : Nat} (I : LnInv h ls a b) (hc : b ≤ c) : LnInv h ls a c := ⟨I.pw, I.ln, fun p hp => by
  have := I.lt p hp
  unfold ltP at this ⊢
  simp only [Bool.or_eq_true, Bool.and_eq_true, decide_eq_true_eq] at this ⊢
  omega⟩
theorem asc_of : ∀ {ps : List Ln}, ps.Pairwise (fun p q => ltP p q = true) → ascP ps = true
  | [], _ => rfl
  | [p], _ => rfl
  | p :: q :: r, h => by
    obtain ⟨h1, h2⟩ := List.pairwise_cons.mp h
    rw [ascP, h1 q List.mem_cons_self, asc_of h2]
    rfl
theorem LnInv.ok {h : Nat} {ls : List Ln} {a b : Nat} (I : LnInv h ls a b) (h1 : 1 ≤ h) (h9 : h ≤ 9) : (Nt.mk h ls).Ok := by
  have asc := asc_of I.pw
  refine ⟨h1, h9, I.ln, asc, ?_⟩
  rcases asc_codes ls 0 (fun p hp => by have := (I.ln p hp).2; omega) asc (fun _ _ => Nat.zero_le _) (fun p hp => by have := I.ln p hp; omega) with z | z
  · show ls.length ≤ 100
    omega
  · show ls.length ≤ 100
    rw [z]
    decide
theorem LnInv.few {h : Nat} {ls : List Ln} {a b : Nat} (I : LnInv h ls a b) (h1 : 1 ≤ h) (h9 : h ≤ 9) : ls.length ≤ 100 := (I.ok h1 h9).few
section
variable {e : En}
def preNet (xs ds : List D) : Prop := ∃ (st : Dc) (k m : Nat), xs = eDc st ∧ ds = [nD m] ∧ st.Ok k ∧ k ≤ 100000 ∧ 1 ≤ m ∧ m ≤ 9
def rLNet (xs ds : List D) (r : Res) (xs' : List D) : Prop := ∃ (st st' : Dc) (m : Nat) (g : Nt), xs = eDc st ∧ ds = [nD m] ∧ xs' = eDc st' ∧ (∀ k, st.Ok k → st'.Ok (k + 100)) ∧ g.Ok ∧ g.h ≤ m ∧ r = .d (eN g)
abbrev NLN : List Str := ["dice", "most", "hills", "lines", "one", "other"]
theorem cal_lnet (T : Top e) : e.CalM CX0 2 "_law_net" ["dice", "most"] preNet rLNet := by
  refine T.lawNet.calM (okM (N := NLN) ⟨rfl, rfl, rfl, by decide +kernel, rfl, by decide +kernel, by decide +kernel⟩ (by rintro xs ds ⟨s, n, k, _, rfl, _⟩; rfl) ?_) fun _ _ _ _ _ _ us hl => match us, hl with | [_, _], _ => rfl
  rintro f A outer s H E F ad xs ds Q hr ⟨st, kk, m, rfl, rfl, ok0, hkk, hm1, hm9⟩ hMx hq
  have nd : NLN.Nodup := by decide +kernel
  have R := cal_roll T
  obtain ⟨ok, hk⟩ := ok0.own
  generalize hk0 : st.c.toNat = k at ok hk
  have hk9 : k ≤ 100000 := by omega
  refine ws_cons (w_parNil 2 3 nd rfl (em_add (ED.mm ed_int ⟨1, rfl, em_roll 0 R hr rfl List.mem_cons_self ok (ed_name 1 rfl) (by omega) (by omega) (by omega) (fun v s1 v0 v1 ok1 => ⟨v, rfl, ?_⟩)⟩)))
  obtain ⟨h, h1, hm, eh⟩ : ∃ h : Nat, 1 ≤ h ∧ h ≤ m ∧ 1 + v = (h : Int) := ⟨(1 + v).toNat, by omega, by omega, by omega⟩
  rw [eh]
  show WS _ _ [.m ad (eDc s1), .d (nD m), .d (nD h), .l [], .un, .un] _ _
  refine ws_cons (w_for .never rfl (ei_range1 (ed_name 2 rfl) (by constructor <;> omega) T.bRange) (fun i δ => ∃ s ls a b, Dc.Ok s (k + 1 + 10 * i) ∧ LnInv h ls i 0 ∧ δ = [.m ad (eDc s), .d (nD m), .d (nD h), .l (ls.map eP), a, b] ∧ a = .un ∧ b = .un) ⟨s1, [], _, _, ok1, ⟨.nil, (fun p hp => by cases hp), (fun p hp => by cases hp)⟩, rfl, rfl, rfl⟩ ?_ ?_)
  · rintro i y δ1 hy ⟨s2, ls, _, _, ok2, I, rfl, rfl, rfl⟩ Fp hFp
    obtain ⟨hi, rfl⟩ := rng_getN (n := h) (by rw [show (((h : Nat) : Int)).toNat = h by omega] at hy; exact hy)
    refine ⟨_, _, eg_name 4 nd, ?_⟩
    refine ws_one (w_for .never rfl (ei_range2 (ed_add (ed_name 4 rfl) ed_int) (ed_name 2 rfl) (by constructor <;> omega) (by constructor <;> omega) T.bRange) (fun j δ => ∃ s ls b, Dc.Ok s (k + 1 + 10 * i + j) ∧ LnInv h ls i (i + 1 + j) ∧ δ = [.m ad (eDc s), .d (nD m), .d (nD h), .l (ls.map eP), .d (nD i), b] ∧ b = .un) ⟨s2, ls, _, ok2, I.wide (by omega), rfl, rfl⟩ ?_ ?_)
    · rintro j y δ1 hy ⟨s3, ls, _, ok3, I, rfl, rfl⟩ Fp2 hFp2
      obtain ⟨hj, rfl⟩ := rngD_get hy
      have ej : PyData.int (((i : Nat) : Int) + 1 + (j : Nat)) = nD (i + 1 + j) := by
        exact congrArg PyData.int (by omega)
      rw [ej]
      have hjh : i + 1 + j < h := by omega
      refine ⟨_, _, eg_name 5 nd, ?_⟩
      refine ws_one (w_ifM (ECM.et (ecm_lt (em_roll 0 R hr rfl List.mem_cons_self ok3 ed_int (by omega) (by decide) (by decide) (fun v s4 v0 v1 ok4 => ⟨v, rfl, ED.mm ed_int ⟨3, rfl, fun hk2 => ?_, fun hk2 => ws_nil ?_⟩⟩)))))
      · show WS _ _ [.m ad (eDc s4), .d (nD m), .d (nD h), .l (ls.map eP), .d (nD i), .d (nD (i + 1 + j))] _ _
        have := I.few h1 (by omega)
        refine ws_one (w_append 3 rfl (ed_tup (ea_cons (ed_name 4 rfl) (ea_cons (ed_name 5 rfl) ea_nil))) (by rw [List.length_map, szl]; omega) ?_)
        rw [show ls.map eP ++ [PyData.tuple [nD i, nD (i + 1 + j)]] = (ls ++ [(i, i + 1 + j)]).map eP by rw [List.map_append]; rfl]
        exact (nx_next (t := j + 1) (I := fun j δ => ∃ s ls b, Dc.Ok s (k + 1 + 10 * i + j) ∧ LnInv h ls i (i + 1 + j) ∧ δ = [.m ad (eDc s), .d (nD m), .d (nD h), .l (ls.map eP), .d (nD i), b] ∧ b = .un) ⟨s4, _, _, ok4, I.add (by omega) hjh, rfl, rfl⟩).wk
      · exact (nx_next (t := j + 1) (I := fun j δ => ∃ s ls b, Dc.Ok s (k + 1 + 10 * i + j) ∧ LnInv h ls i (i + 1 + j) ∧ δ = [.m ad (eDc s), .d (nD m), .d (nD h), .l (ls.map eP), .d (nD i), b] ∧ b = .un) ⟨s4, ls, _, ok4, I.skip, rfl, rfl⟩).wk
    · rintro δ1 ⟨s3, ls, _, ok3, I, rfl, rfl⟩
      rw [rng_len] at ok3 I
      exact (nx_next (t := i + 1) (I := fun i δ => ∃ s ls a b, Dc.Ok s (k + 1 + 10 * i) ∧ LnInv h ls i 0 ∧ δ = [.m ad (eDc s), .d (nD m), .d (nD h), .l (ls.map eP), a, b] ∧ a = .un ∧ b = .un) ⟨s3, ls, _, _, ok3.up (by omega), I.row, rfl, rfl, rfl⟩).wk
  · rintro δ1 ⟨s2, ls, _, _, ok2, I, rfl, rfl, rfl⟩
    rw [rng_len] at ok2 I
    show WS _ _ _ _ _
    refine ws_one (w_retM 0 (em_tup (ema_cons (ED.mm (ed_name 2 rfl) (ema_cons (ED.mm (ed_tuple (er_name 3 rfl) T.bTuple) (ema_nil ⟨of_decide_eq_true rfl, _, rfl, ?_⟩)))))) hq)
    refine ⟨st, s2, m, ⟨h, ls⟩, rfl, rfl, rfl, fun k2 ok3 => ok2.up ?_, I.ok h1 (by omega), hm, rfl⟩
    have := ok3.own.2
    omega
end
end Fs

set_option Elab.async false
set_option linter.all false
set_option maxRecDepth 100000
set_option maxHeartbeats 4000000
/-! Firesseen: the law's own divisor. -/
namespace Fs
open PySem PySem.Spec L2
section
variable {e : En}
def rGcd (ds : List D) (r : Res) : Prop := ∃ a b : Nat, b ≤ 300 ∧ ds = [nD a, nD b] ∧ r = .d (nD (Nat.gcd a b))
theorem cal_gcd (T : Top e) : e.Cal CX0 1 "_law_gcd" ["one", "other"] rGcd := by
  refine T.lawGcd.cal (okN (N := ["one", "other", "turn"]) ⟨rfl, rfl, rfl, by decide +kernel, rfl, by decide +kernel, by decide +kernel⟩ (by rintro ds r ⟨a, b, _, rfl, rfl⟩; rfl) ?_) fun _ _ _ _ _ _ us hl => match us, hl with | [_, _], _ => rfl
  rintro f A outer s H E F ds r Q hr ⟨a, b, hb, rfl, rfl⟩ hq
  have nd : (["one", "other", "turn"] : List Str).Nodup := by decide +kernel
  have ab : ∀ n : Nat, (if ((n : Nat) : Int) < 0 then -((n : Nat) : Int) else ((n : Nat) : Int)) = (n : Nat) := fun n => if_neg (by omega)
  have hab : ∀ n : Nat, PyData.int (if ((n : Nat) : Int) < 0 then -((n : Nat) : Int) else ((n : Nat) : Int)) = nD n := fun n => congrArg PyData.int (ab n)
  refine ws_cons (w_par2 0 1 nd rfl (EA.mm (ea_cons (edC (ed_abs (ed_name 0 rfl) T.bAbs) (hab _)) (ea_cons (edC (ed_abs (ed_name 1 rfl) T.bAbs) (hab _)) ea_nil)) ⟨_, _, rfl, ?_⟩))
  show WS _ _ [.d (nD a), .d (nD b), .un] _ _
  refine ws_cons (w_for .never rfl (ei_range1 ed_int (by constructor <;> omega) T.bRange) (fun i δ => ∃ a' b' t, Nat.gcd a' b' = Nat.gcd a b ∧ (b' = 0 ∨ b' + i ≤ 300) ∧ δ = [.d (nD a'), .d (nD b'), t] ∧ t = .un) ⟨a, b, _, rfl, .inr (by omega), rfl, rfl⟩ ?_ ?_)
  · rintro i y δ1 hy ⟨a', b', _, hg, hb', rfl, rfl⟩ Fp hFp
    refine ⟨_, _, eg_name 2 nd, ?_⟩
    refine ws_cons (w_if (ec_eq (e1 := nD b') (e2 := .int 0) (ed_name 1 rfl) ed_int rfl).et (fun hk => ?_) (fun hk => ws_nil ?_))
    · have hb0 : b' = 0 := by
        rw [nD, eqF_int] at hk
        have := of_decide_eq_true hk
        omega
      subst hb0
      rw [Nat.gcd_zero_right] at hg
      subst hg
      refine ws_one (w_break (Nx.pin ?_ hFp))
      refine WS.nx ?_
      exact ws_one (w_ret (ed_name 0 rfl) hq)
    · have hb0 : 0 < b' := by
        rw [nD, eqF_int] at hk
        have := of_decide_eq_false hk
        omega
      have hlt := Nat.mod_lt a' hb0
      refine ws_one (w_par2 0 1 nd rfl (EA.mm (ea_cons (ed_name 1 rfl) (ea_cons (edC (ed_mod (ed_name 0 rfl) (ed_name 1 rfl) (by omega)) (by rw [← Int.natCast_emod]; try rfl)) ea_nil)) ⟨_, _, rfl, ?_⟩))
      exact (nx_next (t := i + 1) (I := fun i δ => ∃ a' b' t, Nat.gcd a' b' = Nat.gcd a b ∧ (b' = 0 ∨ b' + i ≤ 300) ∧ δ = [.d (nD a'), .d (nD b'), t] ∧ t = .un) ⟨b', a' % b', _, by rw [← hg, Nat.gcd_comm b', ← Nat.gcd_rec, Nat.gcd_comm], by omega, rfl, rfl⟩).wk
  · rintro δ1 ⟨a', b', _, hg, hb', rfl, rfl⟩
    have hb0 : b' = 0 := by
      rcases hb' with z | z
      · exact z
      · rw [rng_len] at z
        omega
    subst hb0
    rw [Nat.gcd_zero_right] at hg
    subst hg
    show WS _ _ _ _ _
    exact ws_one (w_ret (ed_name 0 rfl) hq)
end
end Fs

set_option Elab.async false
set_option linter.all false
set_option maxRecDepth 100000
set_option maxHeartbeats 4000000
/-! Firesseen: the law's drawn watches. -/
namespace Fs
open PySem PySem.Spec L2
theorem ow_refl : ∀ r : List Sd, Ow r r
  | [] => .nil
  | _ :: r => .cons id (ow_refl r)
theorem owR (a b : List D) {ad : Addr} {x : Sd} {r : List Sd} : Ow (.m ad a :: x :: r) (.m ad b :: x :: r) := .cons id (.cons id (ow_refl r))
section
variable {e : En}
def preLW (xs ds : List D) : Prop := ∃ (st : Dc) (k : Nat) (g : Nt), xs = eDc st ∧ ds = [eN g] ∧ st.Ok k ∧ k ≤ 100000 ∧ g.Ok
def rLW (xs ds : List D) (r : Res) (xs' : List D) : Prop := ∃ (st st' : Dc) (g : Nt) (ws : List Wt), xs = eDc st ∧ ds = [eN g] ∧ xs' = eDc st' ∧ (∀ k, st.Ok k → st'.Ok (k + 100)) ∧ ws.length = g.h ∧ (∀ w ∈ ws, 1 ≤ w.length ∧ w.length ≤ 4) ∧ r = .d (eWs ws)
abbrev NLW : List Str := ["dice", "net", "found", "hill", "turn"]
theorem cal_lwatches (T : Top e) : e.CalM CX0 2 "_law_watches" ["dice", "net"] preLW rLW := by
  refine T.lawWatches.calM (okM (N := NLW) ⟨rfl, rfl, rfl, by decide +kernel, rfl, by decide +kernel, by decide +kernel⟩ (by rintro xs ds ⟨s, n, g, _, rfl, _⟩; rfl) ?_) fun _ _ _ _ _ _ us hl => match us, hl with | [_, _], _ => rfl
  rintro f A outer s H E F ad xs ds Q hr ⟨st, kk, g, rfl, rfl, ok0, hkk, G⟩ hMx hq
  have nd : NLW.Nodup := by decide +kernel
  have R := cal_roll T
  have h9 := G.h9
  obtain ⟨ok, hk⟩ := ok0.own
  generalize hk0 : st.c.toNat = k at ok hk
  refine ws_cons (w_setL 2 (ds := []) nd (el_lst ea_nil) ?_)
  show WS _ _ [.m ad (eDc st), .d (eN g), .l [], .un, .un] _ _
  refine ws_cons (w_for .never rfl (ei_range1 (ed_ix (ED.tq (ed_name 1 rfl)) ed_int net0) (by constructor <;> omega) T.bRange) (fun i δ => ∃ s ws a, Dc.Ok s (k + 10 * i) ∧ ws.length = i ∧ (∀ w ∈ ws, 1 ≤ w.length ∧ w.length ≤ 4) ∧ δ = [.m ad (eDc s), .d (eN g), .l (ws.map eW), a, .un] ∧ a = .un) ⟨st, [], _, ok, rfl, (fun w hw => by cases hw), rfl, rfl⟩ ?_ ?_)
  · rintro i y δ1 hy ⟨s2, ws, _, ok2, hlen, hw, rfl, rfl⟩ Fp hFp
    obtain ⟨hi, rfl⟩ := rng_getN (n := g.h) (by rw [show (((g.h : Nat) : Int)).toNat = g.h by omega] at hy; exact hy)
    refine ⟨_, _, eg_name 3 nd, ?_⟩
    show WS _ _ [.m ad (eDc s2), .d (eN g), .l (ws.map eW), .d (nD i), .un] _ _
    refine ws_one (w_appendM 2 rfl (em_tuple (eml_lc (own := [("turn", 4)]) (blkOk_by (N := NLW) (sc := defScope stLawWatches) (by decide +kernel)) rfl nd hMx (fun t acc δ => ∃ s bs, Dc.Ok s (k + 10 * i + 1 + t) ∧ acc = (bs : List Bool).map .bool ∧ bs.length = t ∧ δ = [.m ad (eDc s), .d (eN g), .l (ws.map eW), .d (nD i), .un])
      (eim_range1 (em_add (ED.mm ed_int ⟨1, rfl, em_roll 0 R hr rfl List.mem_cons_self ok2 ed_int (by omega) (by decide) (by decide) (fun v s3 v0 v1 ok3 => ⟨v, rfl, 1 + v, rfl, by omega, by omega, ?_, rfl, ⟨s3, [], ok3, rfl, rfl, rfl⟩, ?_, ?_, ?_⟩)⟩)) T.bRange)) T.bTuple))
    · rw [rng_len, szl]; omega
    · rintro t acc δi ⟨s4, bs, _, rfl, e1, rfl⟩
      exact ⟨by rw [List.length_map]; omega, owR _ _⟩
    · rintro acc δi ⟨s4, bs, ok4, rfl, e1, rfl⟩
      rw [rng_len] at e1 ok4
      refine ⟨_, rfl, by rw [List.length_map, szl]; omega, ?_⟩
      show Nx _ [.m ad (eDc s4), .d (eN g), .l (ws.map eW ++ [eW bs]), .d (nD i), .un] _
      rw [show ws.map eW ++ [eW bs] = (ws ++ [bs]).map eW by rw [List.map_append]; rfl]
      have hw3 : ∀ w ∈ ws ++ [bs], 1 ≤ w.length ∧ w.length ≤ 4 := fun w hw2 => by
        rcases List.mem_append.mp hw2 with z | z
        · exact hw w z
        · rw [List.mem_singleton.mp z]
          omega
      refine Nx.wk (δ' := [.m ad (eDc s4), .d (eN g), .l ((ws ++ [bs]).map eW), .un, .un]) (nx_next (t := i + 1) (I := fun i δ => ∃ s ws a, Dc.Ok s (k + 10 * i) ∧ ws.length = i ∧ (∀ w ∈ ws, 1 ≤ w.length ∧ w.length ≤ 4) ∧ δ = [.m ad (eDc s), .d (eN g), .l (ws.map eW), a, .un] ∧ a = .un) ⟨s4, ws ++ [bs], _, ok4.up (by omega), (by rw [List.length_append, hlen]; rfl), hw3, rfl, rfl⟩) (.same (.same (.same (.un (.same .nil)))))
    · rintro t x acc δi hx ⟨s4, bs, ok4, rfl, e1, rfl⟩
      obtain ⟨ht, rfl⟩ := rngD_get hx
      refine ⟨_, fun _ _ _ _ _ => eg_name 4 nd, fun _ _ _ _ _ => epm_nil ⟨fun _ _ _ _ _ _ => ECM.ed (ecm_gt (em_roll 0 R hr rfl List.mem_cons_self ok4 ed_int (by omega) (by decide) (by decide) (fun v s5 v0 v1 ok5 => ⟨v, rfl, ED.mm ed_int ⟨0, rfl, s5, bs ++ [decide (0 < v)], ok5, ?_, ?_, rfl⟩⟩))), fun z => by cases z⟩⟩
      · rw [List.map_append]
        rfl
      · rw [List.length_append, e1]
        rfl
  · rintro δ1 ⟨s2, ws, _, ok2, hlen, hw, rfl, rfl⟩
    rw [rng_len] at ok2 hlen
    show WS _ _ _ _ _
    refine ws_one (w_retM 0 (ED.mm (ed_tuple (er_name 2 rfl) T.bTuple) ⟨_, rfl, ?_⟩) hq)
    refine ⟨st, s2, g, ws, rfl, rfl, rfl, fun k2 ok3 => ok2.up ?_, by omega, hw, rfl⟩
    have := ok3.own.2
    omega
end
end Fs

set_option Elab.async false
set_option linter.all false
set_option maxRecDepth 100000
set_option maxHeartbeats 4000000
/-! Firesseen: the law's own burning, its delays. -/
namespace Fs
open PySem PySem.Spec L2
/-- one hill of the lit ones -/
def burnOne (ws : List Wt) (step : Nat) (f : List (Option Nat)) (i : Nat) : List (Option Nat) := if ((f.getD i none).isNone && awk (ws.getD i []) step) = true then f.set i (some (step + 1)) else f
def litNow (g : Nt) (f : List (Option Nat)) (step : Nat) : List Nat := (List.range g.h).filter fun i => match f.getD i none with
  | none => false
  | some v => decide (v ≤ step)
def burnStep (g : Nt) (ws : List Wt) (f : List (Option Nat)) (step : Nat) : List (Option Nat) := (litL g (litNow g f step) []).foldl (burnOne ws step) f
def burnL (g : Nt) (ws : List Wt) (src st : Nat) : List (Option Nat) := (List.range (20 * g.h)).foldl (fun f k => burnStep g ws f (st + k)) (init g src st)
theorem burnOne_len (ws : List Wt) (step i : Nat) (f : List (Option Nat)) : (burnOne ws step f i).length = f.length := by
  unfold burnOne
  split
  · rw [List.length_set]
  · rfl
theorem burnStep_len (g : Nt) (ws : List Wt) (f : List (Option Nat)) (step : Nat) : (burnStep g ws f step).length = f.length := foldl_len (fun f i => burnOne_len ws step i f) _ _
theorem burn_len (g : Nt) (ws : List Wt) (src st : Nat) : (burnL g ws src st).length = g.h := by
  unfold burnL
  rw [foldl_len (fun f k => burnStep_len g ws f (st + k)), init_len]
theorem fold_stepL {α β : Type} {F : α → β → α} {a : α} {l : List β} {i : Nat} {x : β} (h : l[i]? = some x) : (l.take (i + 1)).foldl F a = F ((l.take i).foldl F a) x := by
  obtain ⟨hi, e⟩ := List.getElem?_eq_some_iff.mp h
  rw [← List.take_append_getElem hi, List.foldl_append, e]
  rfl
section
variable {e : En}
def rBurn (ds : List D) (r : Res) : Prop := ∃ (g : Nt) (ws : List Wt) (src st : Nat), g.Ok ∧ ws.length = g.h ∧ (∀ w ∈ ws, 1 ≤ w.length ∧ w.length ≤ 4) ∧ src < g.h ∧ st ≤ 1000000 ∧ ds = [eN g, eWs ws, nD src, nD st] ∧ r = .l ((burnL g ws src st).map oN)
abbrev NBu : List Str := ["net", "watches", "source", "start", "found", "step", "lit", "hill"]
theorem cal_burn (T : Top e) : e.Cal CX0 2 "_law_burning" ["net", "watches", "source", "start"] rBurn := by
  refine T.lawBurning.cal (okN (N := NBu) ⟨rfl, rfl, rfl, by decide +kernel, rfl, by decide +kernel, by decide +kernel⟩ (by rintro ds r ⟨g, ws, s, t, _, _, _, _, _, rfl, rfl⟩; rfl) ?_) fun _ _ _ _ _ _ us hl => match us, hl with | [_, _, _, _], _ => rfl
  rintro f A outer s H E F ds r Q hr ⟨g, ws, src, st, G, hwl, hw, hsrc, hst, rfl, rfl⟩ hq
  have nd : NBu.Nodup := by decide +kernel
  have h9 := G.h9
  have h1 := G.h1
  refine ws_cons (w_setL 4 (ds := (List.replicate g.h (none : Option Nat)).map oN) nd (elC (el_rep (k := (g.h : Int)) (EL.r (el_lst (ea_cons ed_non ea_nil))) (ed_ix (ED.tq (ed_name 0 rfl)) ed_int net0) (by omega) (by omega) ?_) (rep_none _)) ?_)
  · rw [szl]
    show 1 * _ ≤ _
    omega
  have e0 : ((List.replicate g.h (none : Option Nat)).map oN).set src (nD st) = (init g src st).map oN := by
    unfold init
    rw [List.map_set]
    rfl
  refine ws_cons (w_store 4 (jj := src) rfl (ed_name 3 rfl) (ed_name 2 rfl) (by rw [List.length_map, List.length_replicate]; exact ixN_nat hsrc) ?_)
  rw [e0]
  show WS _ _ [.d (eN g), .d (eWs ws), .d (nD src), .d (nD st), .l ((init g src st).map oN), .un, .un, .un] _ _
  refine ws_cons (w_for .never rfl (EIF.cast (ei_range2 (ed_name 3 rfl) (ed_add (ed_name 3 rfl) (ed_mul ed_int (ed_ix (ED.tq (ed_name 0 rfl)) ed_int net0) (by left; constructor <;> omega))) (by constructor <;> omega) (by constructor <;> omega) T.bRange) (show rngD ((st : Nat) : Int) (((st : Nat) : Int) + 20 * ((g.h : Nat) : Int) - ((st : Nat) : Int)).toNat = rngD (st : Nat) (20 * g.h) by congr 1; omega)) (fun i δ => ∃ a b c, δ = [.d (eN g), .d (eWs ws), .d (nD src), .d (nD st), .l ((((List.range (20 * g.h)).take i).foldl (fun f k => burnStep g ws f (st + k)) (init g src st)).map oN), a, b, c] ∧ a = .un ∧ b = .un ∧ c = .un) ⟨_, _, _, rfl, rfl, rfl, rfl⟩ ?_ ?_)
  · rintro i y δ1 hy ⟨_, _, _, rfl, rfl, rfl, rfl⟩ Fp hFp
    obtain ⟨hi, rfl⟩ := rngD_get hy
    have hstep : ((List.range (20 * g.h)).take (i + 1)).foldl (fun f k => burnStep g ws f (st + k)) (init g src st) = burnStep g ws (((List.range (20 * g.h)).take i).foldl (fun f k => burnStep g ws f (st + k)) (init g src st)) (st + i) := fold_step (F := fun f k => burnStep g ws f (st + k)) hi
    have hlen : (((List.range (20 * g.h)).take i).foldl (fun f k => burnStep g ws f (st + k)) (init g src st)).length = g.h := by rw [foldl_len (fun f k => burnStep_len g ws f (st + k)), init_len]
    generalize ((List.range (20 * g.h)).take i).foldl (fun f k => burnStep g ws f (st + k)) (init g src st) = f0 at hstep hlen ⊢
    have es : PyData.int (((st : Nat) : Int) + (i : Nat)) = nD (st + i) := congrArg PyData.int (by omega)
    rw [es]
    generalize hz : st + i = z at hstep ⊢
    have hz2 : z ≤ 2000000 := by omega
    refine ⟨_, _, eg_name 5 nd, ?_⟩
    have kl : ∀ n, n < g.h → atI (f0.map oN) (n : Nat) = some (oN (f0.getD n none)) := fun n hn => oN_at (by omega)
    refine ws_cons (w_setLc 6 (own := [("hill", 7)]) (kb := fun x => match f0.getD (natD x) none with
      | none => false
      | some v => decide (v ≤ z)) (f := fun x => x) (δx := fun x => [.d (eN g), .d (eWs ws), .d (nD src), .d (nD st), .l (f0.map oN), .d (nD z), .un, .d x]) (blkOk_by (N := NBu) (sc := defScope stLawBurning) (by decide +kernel)) nd rfl (ei_range1 (ed_ix (ED.tq (ed_name 0 rfl)) ed_int net0) (by constructor <;> omega) T.bRange).toC ?_ (fun x hx s H C cl fp => eg_name 7 nd) (fun x hx s H C cl fp => ?_) (fun x hx _ s H C cl fp => ed_name 7 rfl) ?_)
    · rw [rng_len, szl]; omega
    · rw [show (((g.h : Nat) : Int)).toNat = g.h by omega, rng_eq] at hx
      obtain ⟨n, hn, rfl⟩ := List.mem_map.mp hx
      have hn := List.mem_range.mp hn
      refine eps_one (EW.et ?_)
      have kk := kl n hn
      show EW _ _ _ _ (match f0.getD n none with | none => false | some v => decide (v ≤ z))
      generalize f0.getD n none = o at kk ⊢
      cases o with
      | none => exact ew_and (k := false) (l := false) (ec_notN (ed_ix (eq_name 4 rfl) (ed_name 7 rfl) kk)).et fun z => by cases z
      | some v =>
        refine ew_and (k := true) (ec_notN (ed_ix (eq_name 4 rfl) (ed_name 7 rfl) kk)).et fun _ => ew_and1 (ET.cast (ec_le (ed_ix (eq_name 4 rfl) (ed_name 7 rfl) kk) (ed_name 5 rfl)).et ?_)
        exact decide_eq_decide.mpr (by omega)
    · have elc : lcD (fun x => match f0.getD (natD x) none with
        | none => false
        | some v => decide (v ≤ z)) (fun x => x) (rngD 0 (((g.h : Nat) : Int)).toNat) = (litNow g f0 z).map nD := by
        rw [show (((g.h : Nat) : Int)).toNat = g.h by omega, rng_eq]
        exact lc_fmap nD _ _ _ nD (fun n => rfl) (fun n => rfl) _
      rw [elc]
      show WS _ _ [.d (eN g), .d (eWs ws), .d (nD src), .d (nD st), .l (f0.map oN), .d (nD z), .l ((litNow g f0 z).map nD), .un] _ _
      refine ws_freeze 6 rfl rfl ?_
      show WS _ _ [.d (eN g), .d (eWs ws), .d (nD src), .d (nD st), .l (f0.map oN), .d (nD z), .d (.list ((litNow g f0 z).map nD)), .un] _ _
      have lnd : (litNow g f0 z).Nodup := List.nodup_range.sublist List.filter_sublist
      have llt : ∀ i ∈ litNow g f0 z, i < g.h := fun i hi => List.mem_range.mp (List.mem_filter.mp hi).1
      have hB : burnStep g ws f0 z = (litL g (litNow g f0 z) []).foldl (burnOne ws z) f0 := rfl
      generalize litNow g f0 z = l at lnd llt hB ⊢
      have hLlt : ∀ i ∈ litL g l [], i < g.h := fun i hi => lit_lt hi
      refine ws_one (w_for .never rfl (ei_tup (ds := (litL g l []).map nD) (ed_call (cal_lit T) pass0 (hr.mono (by decide)) (ea_cons (ed_name 0 rfl) (ea_cons (ed_name 6 rfl) (ea_cons (ed_tup ea_nil) ea_nil))) ⟨g, l, [], _, G, lnd, llt, by decide, .inr rfl, rfl, rfl⟩)) (fun j δ => ∃ c, δ = [.d (eN g), .d (eWs ws), .d (nD src), .d (nD st), .l ((((litL g l []).take j).foldl (burnOne ws z) f0).map oN), .d (nD z), .d (.list (l.map nD)), c] ∧ c = .un) ⟨_, rfl, rfl⟩ ?_ ?_)
      · rintro j y δ1 hy ⟨_, rfl, rfl⟩ Fp2 hFp2
        obtain ⟨n, hn, rfl⟩ := map_get hy
        have hnh := hLlt n (List.mem_of_getElem? hn)
        have hst2 := fold_stepL (F := burnOne ws z) (a := f0) hn
        have hlen2 : (((litL g l []).take j).foldl (burnOne ws z) f0).length = g.h := by rw [foldl_len (fun f i => burnOne_len ws z i f), hlen]
        generalize ((litL g l []).take j).foldl (burnOne ws z) f0 = f2 at hst2 hlen2 ⊢
        refine ⟨_, _, eg_name 7 nd, ?_⟩
        have hww : ws.getD n [] ∈ ws := by
          rw [List.getD_eq_getElem?_getD, List.getElem?_eq_getElem (show n < ws.length by omega)]
          exact List.getElem_mem _
        have hw1 := (hw _ hww).1
        have hwl2 : ((ws.getD n []).map PyData.bool).length = (ws.getD n []).length := List.length_map _
        have hm : z % (ws.getD n []).length < (ws.getD n []).length := Nat.mod_lt _ (by omega)
        have hat : atI ((ws.getD n []).map PyData.bool) (((z : Nat) : Int) % ((((ws.getD n []).map PyData.bool).length : Nat) : Int)) = some (.bool (awk (ws.getD n []) z)) := by
          rw [hwl2, ← Int.natCast_emod]
          refine atI_nat ?_
          rw [List.getElem?_map]
          unfold awk
          rw [List.getD_eq_getElem?_getD (l := ws.getD n []), List.getElem?_eq_getElem hm]
          rfl
        have fin : ∀ f3 : List (Option Nat), f3 = burnOne ws z f2 n → Nx (((cfg0 e.T F H).pin Fp).pin Fp2) [.d (eN g), .d (eWs ws), .d (nD src), .d (nD st), .l (f3.map oN), .d (nD z), .d (.list (l.map nD)), .d (nD n)] (fun σ H' => ∃ F' δ3, (∃ c, δ3 = [.d (eN g), .d (eWs ws), .d (nD src), .d (nD st), .l ((((litL g l []).take (j + 1)).foldl (burnOne ws z) f0).map oN), .d (nD z), .d (.list (l.map nD)), c] ∧ c = .un) ∧ Sta (((cfg0 e.T F H).pin Fp).pin Fp2) F' H' σ δ3) := fun f3 h3 => by
          subst h3
          rw [← hst2]
          exact (nx_next (t := j + 1) (I := fun j δ => ∃ c, δ = [.d (eN g), .d (eWs ws), .d (nD src), .d (nD st), .l ((((litL g l []).take j).foldl (burnOne ws z) f0).map oN), .d (nD z), .d (.list (l.map nD)), c] ∧ c = .un) ⟨_, rfl, rfl⟩).wk
        refine ws_one (w_if (k := (f2.getD n none).isNone && awk (ws.getD n []) z) (EW.et (ew_and (ET.cast (ec_isN (ed_ix (eq_name 4 rfl) (ed_name 7 rfl) (oN_at (by omega)))).et (isN_oN _)) fun _ => ew_and1 (et_val (ed_ix (ED.tq (ed_ix (ED.tq (ed_name 1 rfl)) (ed_name 7 rfl) (eW_at (by omega)))) (ed_mod (ed_name 5 rfl) (ed_len (ED.tq (ed_ix (ED.tq (ed_name 1 rfl)) (ed_name 7 rfl) (eW_at (by omega)))) T.bLen) (by rw [hwl2]; omega)) hat)))) (fun hk => ?_) (fun hk => ws_nil ?_))
        · refine ws_one (w_store 4 (jj := n) (d := nD (z + 1)) rfl (edC (ed_add (ed_name 5 rfl) ed_int) (congrArg PyData.int (by omega))) (ed_name 7 rfl) (by rw [List.length_map, hlen2]; exact ixN_nat hnh) ?_)
          have e7 : (f2.map oN).set n (nD (z + 1)) = (f2.set n (some (z + 1))).map oN := by
            rw [List.map_set]
            rfl
          rw [e7]
          exact fin _ (if_pos hk).symm
        · exact fin f2 (if_neg (by rw [hk]; exact Bool.false_ne_true)).symm
      · rintro δ1 ⟨_, rfl, rfl⟩
        rw [List.length_map, List.take_length, ← hB, ← hstep]
        exact (nx_next (t := i + 1) (I := fun i δ => ∃ a b c, δ = [.d (eN g), .d (eWs ws), .d (nD src), .d (nD st), .l ((((List.range (20 * g.h)).take i).foldl (fun f k => burnStep g ws f (st + k)) (init g src st)).map oN), a, b, c] ∧ a = .un ∧ b = .un ∧ c = .un) ⟨_, _, _, rfl, rfl, rfl, rfl⟩).wk
  · rintro δ1 ⟨_, _, _, rfl, rfl, rfl, rfl⟩
    rw [rng_len, fold_full]
    show WS _ _ _ _ _
    exact ws_one (w_retO 4 rfl rfl hq)
end
end Fs

set_option Elab.async false
set_option linter.all false
set_option maxRecDepth 100000
set_option maxHeartbeats 4000000
/-! Firesseen: the law's own delays. -/
namespace Fs
open PySem PySem.Spec L2
theorem burnOne_lb {ws : List Wt} {step i B : Nat} {f : List (Option Nat)} (hB : B ≤ step + 1) (h : Lb f B) : Lb (burnOne ws step f i) B := by
  unfold burnOne
  split
  · intro j v e
    rw [getD_set] at e
    split at e
    · have := Option.some.inj e
      omega
    · exact h j v e
  · exact h
theorem burn_lb (g : Nt) (ws : List Wt) (src st : Nat) : Lb (burnL g ws src st) st :=
  foldl_inv (P := fun f => Lb f st) (fun f k hf => foldl_inv (P := fun f => Lb f st) (fun f i hf => burnOne_lb (by omega) hf) _ f hf) _ _ init_lb
def bOne (g : Nt) (ws : List Wt) (src tgt st : Nat) : Option Nat := ((burnL g ws src st).getD tgt none).map (· - st)
def delB (g : Nt) (ws : List Wt) (src tgt : Nat) : List (Option Nat) := (List.range (turnL ws)).map (bOne g ws src tgt)
section
variable {e : En}
def rDelB (ds : List D) (r : Res) : Prop := ∃ (g : Nt) (ws : List Wt) (src tgt : Nat), g.Ok ∧ ws.length = g.h ∧ (∀ w ∈ ws, 1 ≤ w.length ∧ w.length ≤ 4) ∧ src < g.h ∧ tgt < g.h ∧ ds = [eN g, eWs ws, nD src, nD tgt] ∧ r = .l ((delB g ws src tgt).map oN)
abbrev NLD : List Str := ["net", "watches", "source", "target", "turn", "watch", "found", "start", "step"]
theorem cal_delB (T : Top e) : e.Cal CX0 3 "_law_delays" ["net", "watches", "source", "target"] rDelB := by
  refine T.lawDelays.cal (okN (N := NLD) ⟨rfl, rfl, rfl, by decide +kernel, rfl, by decide +kernel, by decide +kernel⟩ (by rintro ds r ⟨g, ws, s, t, _, _, _, _, _, rfl, rfl⟩; rfl) ?_) fun _ _ _ _ _ _ us hl => match us, hl with | [_, _, _, _], _ => rfl
  rintro f A outer s H E F ds r Q hr ⟨g, ws, src, tgt, G, hwl, hw, hsrc, htgt, rfl, rfl⟩ hq
  have nd : NLD.Nodup := by decide +kernel
  have hw8 : ∀ w ∈ ws, 1 ≤ w.length ∧ w.length ≤ 8 := fun w h => ⟨(hw w h).1, by have := (hw w h).2; omega⟩
  have td : ∀ i, (ws.take i).foldl (fun t w => tStp t w.length) 1 ∣ 840 := fun i => turn_dvd _ 1 (by decide) fun w hw => hw8 w (List.mem_of_mem_take hw)
  obtain ⟨tp, t8⟩ := turn_pos hw8
  refine ws_cons (w_set 4 (d := nD 1) nd ed_int ?_)
  refine ws_cons (w_for .never rfl (ei_tup (ed_name 1 rfl)) (fun i δ => ∃ a, δ = [.d (eN g), .d (eWs ws), .d (nD src), .d (nD tgt), .d (nD ((ws.take i).foldl (fun t w => tStp t w.length) 1)), a, .un, .un, .un] ∧ a = .un) ⟨_, rfl, rfl⟩ ?_ ?_)
  · rintro i y δ1 hy ⟨_, rfl, rfl⟩ Fp hFp
    obtain ⟨w, hw1, rfl⟩ := map_get hy
    have hwm := hw w (List.mem_of_getElem? hw1)
    have hst := fold_stepL (F := fun t (w : Wt) => tStp t w.length) (a := 1) hw1
    have ht := td i
    have ht1 := td (i + 1)
    rw [hst] at ht1
    generalize (ws.take i).foldl (fun t w => tStp t w.length) 1 = t at ht hst ht1
    have t0 := pos_of_dvd ht (by decide)
    have t1 := Nat.le_of_dvd (by decide) ht
    have gp : 0 < Nat.gcd t w.length := Nat.gcd_pos_of_pos_left _ t0
    have gl : Nat.gcd t w.length ≤ w.length := Nat.gcd_le_right _ (by omega)
    have hdiv : t / Nat.gcd t w.length ≤ 840 := Nat.le_trans (Nat.div_le_self _ _) t1
    have lw : (w.map PyData.bool).length = w.length := List.length_map _
    have el : ∀ (X : Cx) (c : Cfg) (δ : List Sd) (p1 p2 p3 : Pos), True := fun _ _ _ _ _ _ => trivial
    refine ⟨_, _, eg_name 5 nd, ?_⟩
    have e9 : (t : Int) / ((Nat.gcd t w.length : Nat) : Int) * (w.length : Int) = ((t / Nat.gcd t w.length * w.length : Nat) : Int) := by
      rw [Int.natCast_mul, Int.natCast_ediv]
    refine ws_one (w_set 4 (d := nD (tStp t w.length)) nd (edC (ed_mul (ed_fdiv (ed_name 4 rfl) (ed_call (cal_gcd T) pass0 (hr.mono (by decide)) (ea_cons (ed_name 4 rfl) (ea_cons (edC (ed_len (ED.tq (ed_name 5 rfl)) T.bLen) (congrArg (fun n : Nat => PyData.int (n : Int)) lw)) ea_nil)) ⟨t, w.length, by omega, rfl, rfl⟩) ⟨by omega, by omega⟩) (ed_len (ED.tq (ed_name 5 rfl)) T.bLen) ?_) ?_) ?_)
    · right
      rw [lw]
      constructor <;> omega
    · rw [lw, e9]
      rfl
    · rw [show tStp t w.length = (ws.take (i + 1)).foldl (fun t w => tStp t w.length) 1 from hst.symm]
      exact (nx_next (t := i + 1) (I := fun i δ => ∃ a, δ = [.d (eN g), .d (eWs ws), .d (nD src), .d (nD tgt), .d (nD ((ws.take i).foldl (fun t w => tStp t w.length) 1)), a, .un, .un, .un] ∧ a = .un) ⟨_, rfl, rfl⟩).wk
  · rintro δ1 ⟨_, rfl, rfl⟩
    rw [List.length_map, List.take_length]
    show WS _ _ [.d (eN g), .d (eWs ws), .d (nD src), .d (nD tgt), .d (nD (turnL ws)), .un, .un, .un, .un] _ _
    refine ws_cons (w_setL 6 (ds := []) nd (el_lst ea_nil) ?_)
    refine ws_cons (w_for .never rfl (ei_range1 (ed_name 4 rfl) (by constructor <;> omega) T.bRange) (fun i δ => ∃ a b, δ = [.d (eN g), .d (eWs ws), .d (nD src), .d (nD tgt), .d (nD (turnL ws)), .un, .l (((List.range i).map (bOne g ws src tgt)).map oN), a, b] ∧ a = .un ∧ b = .un) ⟨_, _, rfl, rfl, rfl⟩ ?_ ?_)
    · rintro i y δ1 hy ⟨_, _, rfl, rfl, rfl⟩ Fp hFp
      obtain ⟨hi, rfl⟩ := rng_getN (n := turnL ws) (by rw [show (((turnL ws : Nat) : Int)).toNat = turnL ws by omega] at hy; exact hy)
      refine ⟨_, _, eg_name 7 nd, ?_⟩
      have lb := burn_lb g ws src i
      have ln := burn_len g ws src i
      refine ws_cons (w_set 8 nd (ed_ix (EL.q (el_call (cal_burn T) pass0 hr (ea_cons (ed_name 0 rfl) (ea_cons (ed_name 1 rfl) (ea_cons (ed_name 2 rfl) (ea_cons (ed_name 7 rfl) ea_nil)))) ⟨g, ws, src, i, G, hwl, hw, hsrc, by omega, rfl, rfl⟩)) (ed_name 3 rfl) (oN_at (by omega))) ?_)
      have hst : bOne g ws src tgt i = ((burnL g ws src i).getD tgt none).map (· - i) := rfl
      have hlb := lb tgt
      generalize (burnL g ws src i).getD tgt none = o at hst hlb
      refine ws_one (w_append 6 (d := oN (bOne g ws src tgt i)) rfl (ED.cast (ed_if (d2 := oN (bOne g ws src tgt i)) (ec_isN (ed_name 8 rfl)).et (fun hk => ed_non) (fun hk => ?_)) ?_) ?_ ?_)
      · rw [isN_oN] at hk
        cases o with
        | none => cases hk
        | some v =>
          rw [hst]
          refine edC (ed_sub (ed_name 8 rfl) (ed_name 7 rfl)) ?_
          have := hlb v rfl
          show PyData.int ((v : Int) - (i : Nat)) = .int ((v - i : Nat) : Int)
          congr 1
          omega
      · rw [isN_oN]
        cases o with
        | none => rw [hst]; rfl
        | some v => rfl
      · rw [List.length_map, List.length_map, List.length_range, szl]
        omega
      · have e9 : ((List.range i).map (bOne g ws src tgt)).map oN ++ [oN (bOne g ws src tgt i)] = ((List.range (i + 1)).map (bOne g ws src tgt)).map oN := by
          rw [List.range_succ, List.map_append, List.map_append]
          rfl
        rw [e9]
        exact (nx_next (t := i + 1) (I := fun i δ => ∃ a b, δ = [.d (eN g), .d (eWs ws), .d (nD src), .d (nD tgt), .d (nD (turnL ws)), .un, .l (((List.range i).map (bOne g ws src tgt)).map oN), a, b] ∧ a = .un ∧ b = .un) ⟨_, _, rfl, rfl, rfl⟩).wk
    · rintro δ1 ⟨_, _, rfl, rfl, rfl⟩
      have e9 : (rngD 0 (((turnL ws : Nat) : Int)).toNat).length = turnL ws := by rw [rng_len]; omega
      show WS _ _ _ _ _
      rw [e9]
      exact ws_one (w_retO 6 rfl rfl hq)
end
end Fs

set_option Elab.async false
set_option linter.all false
set_option maxRecDepth 100000
set_option maxHeartbeats 4000000
/-! Firesseen: both walks tell the earliest times. -/
namespace Fs
open PySem PySem.Spec L2
/-! ### the first step awake -/
theorem awk_per (w : Wt) (k m : Nat) : awk w (k + m * w.length) = awk w k := by
  unfold awk
  rw [Nat.add_mul_mod_self_right]
theorem awk_perD {w : Wt} {d : Nat} (h : w.length ∣ d) (k : Nat) : awk w (k + d) = awk w k := by
  obtain ⟨m, rfl⟩ := h
  rw [Nat.mul_comm]
  exact awk_per w k m
theorem awake_spec {w : Wt} {s t : Nat} : awake w s = some t ↔ s ≤ t ∧ awk w t = true ∧ ∀ j, s ≤ j → j < t → awk w j = false := by
  constructor
  · intro h
    unfold awake at h
    cases hf : (List.range w.length).find? (fun k => awk w (s + k)) with
    | none => rw [hf] at h; cases h
    | some k =>
      rw [hf] at h
      have e : s + k = t := Option.some.inj h
      rw [List.find?_range_eq_some] at hf
      obtain ⟨h1, _, h3⟩ := hf
      subst e
      refine ⟨by omega, h1, fun j h4 h5 => ?_⟩
      have := h3 (j - s) (by omega)
      rw [show s + (j - s) = j by omega] at this
      simpa using this
  · rintro ⟨h1, h2, h3⟩
    have hl : 0 < w.length := by
      rcases Nat.eq_zero_or_pos w.length with z | z
      · unfold awk at h2
        rw [List.length_eq_zero_iff.mp z] at h2
        cases h2
      · exact z
    have hlt : t < s + w.length := by
      rcases Nat.lt_or_ge t (s + w.length) with z | z
      · exact z
      · have := h3 (t - w.length) (by omega) (by omega)
        have e := awk_per w (t - w.length) 1
        rw [show t - w.length + 1 * w.length = t by omega, h2, this] at e
        cases e
    have := awake_some (w := w) (s := s) (k := t - s) (by omega) (by rw [show s + (t - s) = t by omega]; exact h2) (fun j hj => h3 (s + j) (by omega) (by omega))
    rw [show s + (t - s) = t by omega] at this
    exact this
theorem least_awake {w : Wt} {s t : Nat} (h1 : s ≤ t) (h2 : awk w t = true) : ∃ u, awake w s = some u ∧ u ≤ t := by
  induction hn : t - s using Nat.strongRecOn generalizing t with
  | _ n ih =>
    by_cases hx : ∃ j, s ≤ j ∧ j < t ∧ awk w j = true
    · obtain ⟨j, j1, j2, j3⟩ := hx
      obtain ⟨u, hu, hl⟩ := ih (j - s) (by omega) j1 j3 rfl
      exact ⟨u, hu, by omega⟩
    · refine ⟨t, awake_spec.mpr ⟨h1, h2, fun j j1 j2 => ?_⟩, Nat.le_refl _⟩
      cases hj : awk w j with
      | false => rfl
      | true => exact absurd ⟨j, j1, j2, hj⟩ hx
theorem awake_mono {w : Wt} {s s' t' : Nat} (h : s ≤ s') (e : awake w s' = some t') : ∃ t, awake w s = some t ∧ t ≤ t' := by
  obtain ⟨h1, h2, _⟩ := awake_spec.mp e
  exact least_awake (by omega) h2
theorem awake_shift {w : Wt} {s t d : Nat} (hd : w.length ∣ d) : awake w (s + d) = some (t + d) ↔ awake w s = some t := by
  rw [awake_spec, awake_spec, awk_perD hd]
  constructor
  · rintro ⟨h1, h2, h3⟩
    exact ⟨by omega, h2, fun j j1 j2 => by rw [← awk_perD hd]; exact h3 (j + d) (by omega) (by omega)⟩
  · rintro ⟨h1, h2, h3⟩
    exact ⟨by omega, h2, fun j j1 j2 => by
      have := h3 (j - d) (by omega) (by omega)
      rw [← awk_perD hd, show j - d + d = j by omega] at this
      exact this⟩
/-! ### the times at which a fire may burn -/
inductive Rch (g : Nt) (ws : List Wt) (src st : Nat) : Nat → Nat → Prop
  | src : Rch g ws src st src st
  | step {o h t s : Nat} : Rch g ws src st o t → adj g o h = true → h ≠ src → awake (ws.getD h []) t = some s → Rch g ws src st h (s + 1)
def IsE (g : Nt) (ws : List Wt) (src st h t : Nat) : Prop := Rch g ws src st h t ∧ ∀ t', Rch g ws src st h t' → t ≤ t'
section
variable {g : Nt} {ws : List Wt} {src st : Nat}
theorem IsE.uniq {h t t' : Nat} (a : IsE g ws src st h t) (b : IsE g ws src st h t') : t = t' := Nat.le_antisymm (a.2 _ b.1) (b.2 _ a.1)
theorem Rch.least {h t : Nat} (r : Rch g ws src st h t) : ∃ u, IsE g ws src st h u ∧ u ≤ t := by
  induction t using Nat.strongRecOn with
  | _ n ih =>
    by_cases hx : ∃ t', Rch g ws src st h t' ∧ t' < n
    · obtain ⟨t', r', l⟩ := hx
      obtain ⟨u, hu, l2⟩ := ih t' l r'
      exact ⟨u, hu, by omega⟩
    · exact ⟨n, ⟨r, fun t' r' => by
        rcases Nat.lt_or_ge t' n with z | z
        · exact absurd ⟨t', r', z⟩ hx
        · exact z⟩, Nat.le_refl _⟩
theorem Rch.ge {h t : Nat} (r : Rch g ws src st h t) : st ≤ t := by
  induction r with
  | src => exact Nat.le_refl _
  | step _ _ _ e ih => have := (awake_bd e).1; omega
theorem Rch.at_src {t : Nat} (r : Rch g ws src st src t) : t = st := by
  cases r with
  | src => rfl
  | step _ _ n _ => exact absurd rfl n
theorem isE_src : IsE g ws src st src st := ⟨.src, fun t r => by rw [r.at_src]; exact Nat.le_refl _⟩
theorem Rch.lt {h t : Nat} (G : g.Ok) (hs : src < g.h) (r : Rch g ws src st h t) : h < g.h := by
  cases r with
  | src => exact hs
  | step _ a _ _ => exact bes_lt ((mem_bes G).mpr a)
theorem IsE.parent {h t : Nat} (a : IsE g ws src st h t) (n : h ≠ src) : ∃ o t0 s, IsE g ws src st o t0 ∧ adj g o h = true ∧ awake (ws.getD h []) t0 = some s ∧ t = s + 1 := by
  obtain ⟨r, l⟩ := a
  cases r with
  | src => exact absurd rfl n
  | @step o _ t1 s r1 ad nn e =>
    obtain ⟨t0, h0, l0⟩ := r1.least
    obtain ⟨s', e', l'⟩ := awake_mono l0 e
    have := l _ (Rch.step h0.1 ad nn e')
    have es : s' = s := by omega
    subst es
    exact ⟨o, t0, s', h0, ad, e', rfl⟩
theorem IsE.child {o h t0 s : Nat} (a : IsE g ws src st o t0) (ad : adj g o h = true) (n : h ≠ src) (e : awake (ws.getD h []) t0 = some s) : ∃ t, IsE g ws src st h t ∧ t ≤ s + 1 := (Rch.step a.1 ad n e).least
/-! how many are lit before -/
open Classical in
noncomputable def cnt (g : Nt) (ws : List Wt) (src st t : Nat) : Nat := ((List.range g.h).filter fun h => decide (∃ t', t' < t ∧ IsE g ws src st h t')).length
theorem filter_lt {α : Type} {p q : α → Bool} {l : List α} (hpq : ∀ x ∈ l, p x = true → q x = true) (hx : ∃ x ∈ l, q x = true ∧ p x = false) : (l.filter p).length < (l.filter q).length := by
  induction l with
  | nil => obtain ⟨x, h, _⟩ := hx; cases h
  | cons a l ih =>
    have le : (l.filter p).length ≤ (l.filter q).length := by
      have : ∀ l : List α, (∀ x ∈ l, p x = true → q x = true) → (l.filter p).length ≤ (l.filter q).length := fun l => by
        induction l with
        | nil => intro _; exact Nat.le_refl _
        | cons b l ih2 =>
          intro h
          have := ih2 fun x hx => h x (List.mem_cons_of_mem _ hx)
          rw [List.filter_cons, List.filter_cons]
          cases hb : p b with
          | true => rw [h b List.mem_cons_self hb]; simpa using this
          | false =>
            cases hq : q b with
            | true => simp; omega
            | false => simpa using this
      exact this l fun x hx => hpq x (List.mem_cons_of_mem _ hx)
    rw [List.filter_cons, List.filter_cons]
    obtain ⟨x, hxm, hq, hp⟩ := hx
    rcases List.mem_cons.mp hxm with rfl | hxm
    · rw [hq, hp]
      simp
      omega
    · have ih' := ih (fun y hy => hpq y (List.mem_cons_of_mem _ hy)) ⟨x, hxm, hq, hp⟩
      cases ha : p a with
      | true => rw [hpq a List.mem_cons_self ha]; simpa using ih'
      | false =>
        cases hqa : q a with
        | true => simp; omega
        | false => simpa using ih'
open Classical in
theorem cnt_lt {o t0 t : Nat} (ho : o < g.h) (a : IsE g ws src st o t0) (hl : t0 < t) : cnt g ws src st t0 < cnt g ws src st t := by
  unfold cnt
  refine filter_lt (fun x _ hx => ?_) ⟨o, List.mem_range.mpr ho, ?_, ?_⟩
  · rw [decide_eq_true_eq] at hx ⊢
    obtain ⟨t', h1, h2⟩ := hx
    exact ⟨t', by omega, h2⟩
  · rw [decide_eq_true_eq]
    exact ⟨t0, hl, a⟩
  · rw [decide_eq_false_iff_not]
    rintro ⟨t', h1, h2⟩
    have := a.uniq h2
    omega
theorem cnt_le (t : Nat) : cnt g ws src st t ≤ g.h := by
  unfold cnt
  refine Nat.le_trans (List.length_filter_le _ _) ?_
  rw [List.length_range]
  exact Nat.le_refl _
/-- no later than so -/
theorem IsE.bound (G : g.Ok) (hs : src < g.h) (hw : ∀ h, (ws.getD h []).length ≤ 4) : ∀ {t h : Nat}, IsE g ws src st h t → t ≤ st + 4 * cnt g ws src st t := by
  intro t
  induction t using Nat.strongRecOn with
  | _ n ih =>
    intro h a
    by_cases hn : h = src
    · subst hn
      rw [a.1.at_src]
      omega
    · obtain ⟨o, t0, s, ho, ad, e, rfl⟩ := a.parent hn
      have h1 := awake_bd e
      have h2 := hw h
      have h3 := ih t0 (by omega) ho
      have h4 := cnt_lt (t := s + 1) (ho.1.lt G hs) ho (by omega)
      omega
/-! ### the rounds -/
def Snd (g : Nt) (ws : List Wt) (src st : Nat) (f : List (Option Nat)) : Prop := ∀ h v, f.getD h none = some v → Rch g ws src st h v
def Std (g : Nt) (ws : List Wt) (src st k : Nat) (f : List (Option Nat)) : Prop := ∀ h t, IsE g ws src st h t → cnt g ws src st t ≤ k → f.getD h none = some t
theorem newV_cases (o : Option Nat) (x : Nat) : newV o x = x ∨ ∃ y, o = some y ∧ newV o x = min y x := by
  cases o with
  | none => exact .inl rfl
  | some y => exact .inr ⟨y, rfl, rfl⟩
theorem relax_snd (G : g.Ok) {f : List (Option Nat)} {h : Nat} (S : Snd g ws src st f) : Snd g ws src st (relax g ws src f h) := by
  unfold relax
  split
  · rename_i hc
    have hne : seenL g f h ≠ [] := fun z => by rw [z] at hc; exact absurd hc.2 (Nat.lt_irrefl _)
    obtain ⟨o, hob, ho⟩ := seen_mem.mp (minL_mem hne)
    have ad : adj g o h = true := by rw [adj_symm]; exact (mem_bes G).mp hob
    split
    · exact S
    · rename_i s hs
      have rn : Rch g ws src st h (s + 1) := Rch.step (S _ _ ho) ad hc.1 hs
      intro i v e
      rw [getD_set] at e
      split at e
      · rename_i hi
        have e' := Option.some.inj e
        rw [← hi.1]
        rcases newV_cases (f.getD h none) (s + 1) with z | ⟨y, hy, z⟩
        · rw [← e', z]; exact rn
        · rw [← e', z]
          rcases Nat.le_total y (s + 1) with l | l
          · rw [Nat.min_eq_left l]; exact S _ _ hy
          · rw [Nat.min_eq_right l]; exact rn
      · exact S i v e
  · exact S
theorem relax_std (G : g.Ok) {f : List (Option Nat)} {h k : Nat} (S : Snd g ws src st f) (T : Std g ws src st k f) : Std g ws src st k (relax g ws src f h) := by
  intro x t a hk
  have old := T x t a hk
  have S' := relax_snd (h := h) G S
  unfold relax at S' ⊢
  split
  · rename_i hc
    rw [if_pos hc] at S'
    split
    · exact old
    · rename_i s hs
      rw [hs] at S'
      dsimp only at S'
      by_cases hx : h = x
      · subst hx
        rw [getD_set]
        split
        · have e2 := S' h (newV (f.getD h none) (s + 1)) (by rw [getD_set, if_pos (by assumption)])
          have l2 := a.2 _ e2
          rw [old] at l2 ⊢
          have : newV (some t) (s + 1) = min t (s + 1) := rfl
          rw [this] at l2 ⊢
          congr 1
          omega
        · exact old
      · rw [getD_set, if_neg (fun z => hx z.1)]
        exact old
  · exact old
open Classical in
/-- a hill's turn settles it -/
theorem relax_new (G : g.Ok) {f : List (Option Nat)} {h k t : Nat} (S : Snd g ws src st f) (T : Std g ws src st k f) (hl : h < f.length) (a : IsE g ws src st h t) (hs : src < g.h) (hk : cnt g ws src st t ≤ k + 1) : (relax g ws src f h).getD h none = some t := by
  by_cases hn : h = src
  · subst hn
    have e0 := a.1.at_src
    subst e0
    have : cnt g ws h t t ≤ k := by
      have : cnt g ws h t t = 0 := by
        unfold cnt
        rw [List.length_eq_zero_iff, List.filter_eq_nil_iff]
        intro x _ hx
        rw [decide_eq_true_eq] at hx
        obtain ⟨t', h1, h2⟩ := hx
        have := h2.1.ge
        omega
      omega
    exact relax_std (h := h) G S T h t a this
  · obtain ⟨o, t0, s, ho, ad, e, rfl⟩ := a.parent hn
    have h1 := awake_bd e
    have hc := cnt_lt (t := s + 1) (ho.1.lt G hs) ho (by omega)
    have eo := T o t0 ho (by omega)
    have hsm : t0 ∈ seenL g f h := seen_mem.mpr ⟨o, (mem_bes G).mpr (by rw [adj_symm]; exact ad), eo⟩
    have hmin := minL_le hsm
    have hne : seenL g f h ≠ [] := fun z => by rw [z] at hsm; cases hsm
    have hlen : 0 < (seenL g f h).length := List.length_pos_of_mem hsm
    obtain ⟨s', e', l'⟩ := awake_mono hmin e
    have S' := relax_snd (h := h) G S
    have er : relax g ws src f h = f.set h (some (newV (f.getD h none) (s' + 1))) := by
      unfold relax
      rw [if_pos ⟨hn, hlen⟩, e']
    rw [er] at S' ⊢
    have ev : (f.set h (some (newV (f.getD h none) (s' + 1)))).getD h none = some (newV (f.getD h none) (s' + 1)) := by rw [getD_set, if_pos ⟨rfl, hl⟩]
    have l2 := a.2 _ (S' _ _ ev)
    have l3 := newV_le (f.getD h none) (s' + 1)
    rw [ev]
    congr 1
    omega
theorem round_std (G : g.Ok) (hs : src < g.h) {f : List (Option Nat)} {k : Nat} (hf : f.length = g.h) (S : Snd g ws src st f) (T : Std g ws src st k f) : Snd g ws src st (roundL g ws src f) ∧ Std g ws src st (k + 1) (roundL g ws src f) := by
  have key : ∀ i, i ≤ g.h → Snd g ws src st (((List.range g.h).take i).foldl (relax g ws src) f) ∧ Std g ws src st k (((List.range g.h).take i).foldl (relax g ws src) f) ∧ ∀ h t, h < i → IsE g ws src st h t → cnt g ws src st t ≤ k + 1 → (((List.range g.h).take i).foldl (relax g ws src) f).getD h none = some t := by
    intro i
    induction i with
    | zero => exact fun _ => ⟨by simpa using S, by simpa using T, fun h t hh => absurd hh (Nat.not_lt_zero _)⟩
    | succ i ih =>
      intro hi
      obtain ⟨S1, T1, N1⟩ := ih (by omega)
      have hl : (((List.range g.h).take i).foldl (relax g ws src) f).length = g.h := by rw [foldl_len (fun f h => relax_len g ws src h f), hf]
      rw [fold_step (by omega)]
      generalize ((List.range g.h).take i).foldl (relax g ws src) f = f1 at S1 T1 N1 hl ⊢
      have S2 := relax_snd (h := i) G S1
      refine ⟨S2, relax_std G S1 T1, fun h t hh a hk => ?_⟩
      rcases Nat.lt_succ_iff_lt_or_eq.mp hh with z | z
      · have old := N1 h t z a hk
        have T2 : ∀ x, (relax g ws src f1 i).getD h none = some x → x = t := fun x hx => by
          by_cases hih : i = h
          · omega
          · have : (relax g ws src f1 i).getD h none = f1.getD h none := by
              unfold relax
              split
              · split
                · rfl
                · rw [getD_set, if_neg (fun z => hih z.1)]
              · rfl
            rw [this, old] at hx
            exact (Option.some.inj hx).symm
        have : (relax g ws src f1 i).getD h none = f1.getD h none := by
          unfold relax
          split
          · split
            · rfl
            · rw [getD_set, if_neg (fun z => by omega)]
          · rfl
        rw [this]
        exact old
      · subst z
        exact relax_new G S1 T1 (by omega) a hs hk
  obtain ⟨S1, T1, N1⟩ := key g.h (Nat.le_refl _)
  rw [fold_full] at S1 N1
  exact ⟨S1, fun h t a hk => N1 h t (a.1.lt G hs) a hk⟩
theorem init_get (h v : Nat) (hs : src < g.h) : (init g src st).getD h none = some v ↔ h = src ∧ v = st := by
  unfold init
  rw [getD_set]
  rw [List.length_replicate]
  split
  · rename_i z
    constructor
    · exact fun e => ⟨z.1.symm, (Option.some.inj e).symm⟩
    · exact fun e => by rw [e.2]
  · rename_i z
    constructor
    · intro e
      rw [List.getD_eq_getElem?_getD, List.getElem?_replicate] at e
      split at e <;> simp at e
    · exact fun e => absurd ⟨e.1.symm, hs⟩ z
theorem arr_iff (G : g.Ok) (hs : src < g.h) (h v : Nat) : (arrL g ws src st).getD h none = some v ↔ IsE g ws src st h v := by
  have key : ∀ i, i ≤ g.h → Snd g ws src st (((List.range g.h).take i).foldl (fun f _ => roundL g ws src f) (init g src st)) ∧ Std g ws src st i (((List.range g.h).take i).foldl (fun f _ => roundL g ws src f) (init g src st)) := by
    intro i
    induction i with
    | zero =>
      intro _
      refine ⟨fun h v e => ?_, fun h t a hk => ?_⟩
      · obtain ⟨rfl, rfl⟩ := (init_get h v hs).mp (by simpa using e)
        exact .src
      · by_cases hn : h = src
        · subst hn
          rw [a.1.at_src]
          simpa using (init_get h st hs).mpr ⟨rfl, rfl⟩
        · obtain ⟨o, t0, s, ho, ad, e, rfl⟩ := a.parent hn
          have := awake_bd e
          have := cnt_lt (t := s + 1) (ho.1.lt G hs) ho (by omega)
          omega
    | succ i ih =>
      intro hi
      obtain ⟨S1, T1⟩ := ih (by omega)
      rw [fold_step (F := fun f _ => roundL g ws src f) (by omega)]
      exact round_std G hs (by rw [foldl_len (fun f _ => round_len g ws src f), init_len]) S1 T1
  obtain ⟨S1, T1⟩ := key g.h (Nat.le_refl _)
  rw [fold_full (F := fun f _ => roundL g ws src f)] at S1 T1
  constructor
  · intro e
    obtain ⟨u, hu, _⟩ := (S1 h v e).least
    have := T1 h u hu (cnt_le _)
    have e2 : some v = some u := e.symm.trans this
    rw [Option.some.inj e2]
    exact hu
  · exact fun a => T1 h v a (cnt_le _)
end
end Fs

set_option Elab.async false
set_option linter.all false
set_option maxRecDepth 100000
set_option maxHeartbeats 4000000
/-! Firesseen: the law's burning tells the earliest times, too; a turn later; a watcher that always sleeps. -/
namespace Fs
open PySem PySem.Spec L2
theorem burn_fold {ws : List Wt} {z : Nat} : ∀ (L : List Nat) (f : List (Option Nat)) (h : Nat), (L.foldl (burnOne ws z) f).getD h none = if h ∈ L ∧ f.getD h none = none ∧ awk (ws.getD h []) z = true ∧ h < f.length then some (z + 1) else f.getD h none
  | [], f, h => by simp
  | a :: L, f, h => by
    rw [List.foldl_cons, burn_fold L]
    have hl : (burnOne ws z f a).length = f.length := burnOne_len ws z a f
    rw [hl]
    by_cases ha : a = h
    · subst ha
      by_cases hc : f.getD a none = none ∧ awk (ws.getD a []) z = true ∧ a < f.length
      · have e1 : (burnOne ws z f a).getD a none = some (z + 1) := by
          unfold burnOne
          rw [if_pos (by rw [hc.1, hc.2.1]; rfl), getD_set, if_pos ⟨rfl, hc.2.2⟩]
        rw [e1, if_neg (by rintro ⟨_, z2, _⟩; cases z2), if_pos ⟨List.mem_cons_self, hc⟩]
      · have e1 : (burnOne ws z f a).getD a none = f.getD a none := by
          unfold burnOne
          split
          · rename_i hk
            rw [getD_set]
            split
            · rename_i hk2
              rw [Bool.and_eq_true] at hk
              refine absurd ⟨?_, hk.2, hk2.2⟩ hc
              cases hz : f.getD a none with
              | none => rfl
              | some v => rw [hz] at hk; cases hk.1
            · rfl
          · rfl
        rw [e1, if_neg (fun z2 => hc z2.2), if_neg (fun z2 => hc z2.2)]
    · have e1 : (burnOne ws z f a).getD h none = f.getD h none := by
        unfold burnOne
        split
        · rw [getD_set, if_neg (fun z2 => ha z2.1)]
        · rfl
      rw [e1]
      have e2 : h ∈ a :: L ↔ h ∈ L := by
        rw [List.mem_cons]
        exact ⟨fun z => z.elim (fun z => absurd z.symm ha) id, .inr⟩
      simp only [e2]
section
variable {g : Nt} {ws : List Wt} {src st : Nat}
theorem mem_litNow {f : List (Option Nat)} {z i : Nat} : i ∈ litNow g f z ↔ i < g.h ∧ ∃ v, f.getD i none = some v ∧ v ≤ z := by
  unfold litNow
  rw [List.mem_filter, List.mem_range]
  refine and_congr Iff.rfl ?_
  cases f.getD i none with
  | none => simp
  | some v => simp
theorem litP_adj (G : g.Ok) {l : List Nat} {i : Nat} : litP g l [] i = true ↔ i ∈ l ∨ ∃ o ∈ l, adj g o i = true := by
  rw [litP_iff]
  refine or_congr Iff.rfl ?_
  constructor
  · rintro ⟨p, hp, _, ⟨h1, rfl⟩ | ⟨h1, rfl⟩⟩
    · exact ⟨p.1, h1, adj_iff.mpr (.inl hp)⟩
    · exact ⟨p.2, h1, adj_iff.mpr (.inr hp)⟩
  · rintro ⟨o, ho, ha⟩
    rcases adj_iff.mp ha with h | h
    · exact ⟨_, h, by simp, .inl ⟨ho, rfl⟩⟩
    · exact ⟨_, h, by simp, .inr ⟨ho, rfl⟩⟩
theorem burn_step_iff (G : g.Ok) (hs : src < g.h) {f : List (Option Nat)} {z : Nat} (hl : f.length = g.h) (hz : st ≤ z) (I : ∀ h v, f.getD h none = some v ↔ IsE g ws src st h v ∧ v ≤ z) (h v : Nat) :
    (burnStep g ws f z).getD h none = some v ↔ IsE g ws src st h v ∧ v ≤ z + 1 := by
  unfold burnStep
  rw [burn_fold]
  have hsrc : f.getD src none = some st := (I src st).mpr ⟨isE_src, hz⟩
  split
  · rename_i hc
    obtain ⟨hL, hn, ha, hlt⟩ := hc
    have hno : ∀ t, ¬ (IsE g ws src st h t ∧ t ≤ z) := fun t ht => by
      have := (I h t).mpr ht
      rw [hn] at this
      cases this
    have hne : h ≠ src := fun e => by rw [e, hsrc] at hn; cases hn
    obtain ⟨o, ho, ad⟩ : ∃ o ∈ litNow g f z, adj g o h = true := by
      rcases (litP_adj G).mp (List.mem_filter.mp hL).2 with q | q
      · obtain ⟨_, t, e, l⟩ := mem_litNow.mp q
        exact absurd ((I h t).mp e) (hno t)
      · exact q
    obtain ⟨_, v0, e0, l0⟩ := mem_litNow.mp ho
    obtain ⟨a0, _⟩ := (I o v0).mp e0
    obtain ⟨u, hu, lu⟩ := least_awake l0 ha
    obtain ⟨t, ht, lt⟩ := a0.child ad hne hu
    have et : t = z + 1 := by
      rcases Nat.lt_or_ge t (z + 1) with q | q
      · exact absurd ⟨ht, by omega⟩ (hno t)
      · omega
    subst et
    constructor
    · intro e
      have := Option.some.inj e
      subst this
      exact ⟨ht, Nat.le_refl _⟩
    · rintro ⟨a, _⟩
      rw [ht.uniq a]
  · rename_i hc
    rw [I]
    constructor
    · rintro ⟨a, l⟩
      exact ⟨a, by omega⟩
    · rintro ⟨a, l⟩
      refine ⟨a, ?_⟩
      rcases Nat.lt_or_ge v (z + 1) with q | q
      · omega
      · exfalso
        have ev : v = z + 1 := by omega
        subst ev
        have hne : h ≠ src := fun e => by
          subst e
          have := a.1.at_src
          omega
        obtain ⟨o, t0, s, ho, ad, e, es⟩ := a.parent hne
        have hb := awake_bd e
        have es' : s = z := by omega
        subst es'
        have eo := (I o t0).mpr ⟨ho, by omega⟩
        refine hc ⟨List.mem_filter.mpr ⟨List.mem_range.mpr (a.1.lt G hs), (litP_adj G).mpr (.inr ⟨o, mem_litNow.mpr ⟨ho.1.lt G hs, t0, eo, by omega⟩, ad⟩)⟩, ?_, (awake_spec.mp e).2.1, by rw [hl]; exact a.1.lt G hs⟩
        cases hf : f.getD h none with
        | none => rfl
        | some t =>
          obtain ⟨a2, l2⟩ := (I h t).mp hf
          have := a.uniq a2
          omega
theorem burn_iff (G : g.Ok) (hs : src < g.h) (hw : ∀ h, (ws.getD h []).length ≤ 4) (h v : Nat) : (burnL g ws src st).getD h none = some v ↔ IsE g ws src st h v := by
  have key : ∀ i, i ≤ 20 * g.h → ∀ h v, (((List.range (20 * g.h)).take i).foldl (fun f k => burnStep g ws f (st + k)) (init g src st)).getD h none = some v ↔ IsE g ws src st h v ∧ v ≤ st + i := by
    intro i
    induction i with
    | zero =>
      intro _ h v
      show (init g src st).getD h none = some v ↔ _
      rw [init_get h v hs]
      constructor
      · rintro ⟨rfl, rfl⟩
        exact ⟨isE_src, by omega⟩
      · rintro ⟨a, l⟩
        by_cases hn : h = src
        · subst hn
          exact ⟨rfl, a.1.at_src⟩
        · obtain ⟨o, t0, s, ho, ad, e, rfl⟩ := a.parent hn
          have := awake_bd e
          have := ho.1.ge
          omega
    | succ i ih =>
      intro hi h v
      rw [fold_step (F := fun f k => burnStep g ws f (st + k)) (by omega)]
      have hl : (((List.range (20 * g.h)).take i).foldl (fun f k => burnStep g ws f (st + k)) (init g src st)).length = g.h := by rw [foldl_len (fun f k => burnStep_len g ws f (st + k)), init_len]
      rw [burn_step_iff G hs hl (by omega) (ih (by omega))]
      rw [Nat.add_assoc]
  have := key (20 * g.h) (Nat.le_refl _) h v
  rw [fold_full (F := fun f k => burnStep g ws f (st + k))] at this
  show ((List.range (20 * g.h)).foldl (fun f k => burnStep g ws f (st + k)) (init g src st)).getD h none = some v ↔ _
  rw [this]
  refine ⟨fun z => z.1, fun a => ⟨a, ?_⟩⟩
  have h1 := a.bound G hs hw
  have h2 := cnt_le (g := g) (ws := ws) (src := src) (st := st) v
  omega
theorem list_ext_getD {a b : List (Option Nat)} (hl : a.length = b.length) (h : ∀ i v, a.getD i none = some v ↔ b.getD i none = some v) : a = b := by
  have hg : ∀ i, a.getD i none = b.getD i none := fun i => by
    cases ha : a.getD i none with
    | none =>
      cases hb : b.getD i none with
      | none => rfl
      | some v => have := (h i v).mpr hb; rw [ha] at this; cases this
    | some v => exact ((h i v).mp ha).symm
  refine List.ext_getElem hl fun i h1 h2 => ?_
  have := hg i
  rw [List.getD_eq_getElem?_getD, List.getD_eq_getElem?_getD, List.getElem?_eq_getElem h1, List.getElem?_eq_getElem h2] at this
  exact this
theorem burn_eq (G : g.Ok) (hs : src < g.h) (hw : ∀ h, (ws.getD h []).length ≤ 4) : burnL g ws src st = arrL g ws src st :=
  list_ext_getD (by rw [burn_len, arr_len]) fun i v => by rw [burn_iff G hs hw, arr_iff G hs]
/-! ### a turn later -/
theorem awake_ne {w : Wt} {s t : Nat} (h : awake w s = some t) : w ≠ [] := fun z => by
  have := awake_bd h
  rw [z] at this
  have e : ([] : Wt).length = 0 := rfl
  omega
theorem Rch.shift {d h t : Nat} (hd : ∀ h, ws.getD h [] ≠ [] → (ws.getD h []).length ∣ d) (r : Rch g ws src st h t) : Rch g ws src (st + d) h (t + d) := by
  induction r with
  | src => exact .src
  | @step o h t s _ ad n e ih =>
    have := Rch.step ih ad n ((awake_shift (hd h (awake_ne e))).mpr e)
    rw [show s + d + 1 = s + 1 + d by omega] at this
    exact this
theorem Rch.unshift {d h t : Nat} (hd : ∀ h, ws.getD h [] ≠ [] → (ws.getD h []).length ∣ d) (r : Rch g ws src (st + d) h t) : ∃ u, t = u + d ∧ Rch g ws src st h u := by
  induction r with
  | src => exact ⟨st, rfl, .src⟩
  | @step o h t s _ ad n e ih =>
    obtain ⟨u, rfl, hu⟩ := ih
    have hb := awake_bd e
    have e' : awake (ws.getD h []) (u + d) = some (s - d + d) := by rw [e]; congr 1; omega
    exact ⟨s - d + 1, by omega, Rch.step hu ad n ((awake_shift (hd h (awake_ne e))).mp e')⟩
theorem isE_shift {d h t : Nat} (hd : ∀ h, ws.getD h [] ≠ [] → (ws.getD h []).length ∣ d) : IsE g ws src (st + d) h (t + d) ↔ IsE g ws src st h t := by
  constructor
  · rintro ⟨r, l⟩
    obtain ⟨u, e, hu⟩ := r.unshift hd
    have : u = t := by omega
    subst this
    exact ⟨hu, fun t' r' => by have := l _ (r'.shift hd); omega⟩
  · rintro ⟨r, l⟩
    refine ⟨r.shift hd, fun t' r' => ?_⟩
    obtain ⟨u, rfl, hu⟩ := r'.unshift hd
    have := l _ hu
    omega
theorem arr_shift (G : g.Ok) (hs : src < g.h) {d : Nat} (hd : ∀ h, ws.getD h [] ≠ [] → (ws.getD h []).length ∣ d) (h : Nat) : (arrL g ws src (st + d)).getD h none = ((arrL g ws src st).getD h none).map (· + d) := by
  cases ha : (arrL g ws src (st + d)).getD h none with
  | none =>
    cases hb : (arrL g ws src st).getD h none with
    | none => rfl
    | some v =>
      have := (arr_iff G hs h (v + d)).mpr ((isE_shift hd).mpr ((arr_iff G hs h v).mp hb))
      rw [ha] at this
      cases this
  | some v =>
    have a := (arr_iff G hs h v).mp ha
    obtain ⟨u, rfl, _⟩ := a.1.unshift hd
    have := (arr_iff G hs h u).mpr ((isE_shift hd).mp a)
    rw [this]
    rfl
/-! ### watches that are awake alike -/
theorem Rch.alike {ws' : List Wt} (hw : ∀ h t, awake (ws.getD h []) t = awake (ws'.getD h []) t) {h t : Nat} (r : Rch g ws src st h t) : Rch g ws' src st h t := by
  induction r with
  | src => exact .src
  | step _ ad n e ih => exact Rch.step ih ad n (by rw [← hw]; exact e)
theorem isE_alike {ws' : List Wt} (hw : ∀ h t, awake (ws.getD h []) t = awake (ws'.getD h []) t) {h t : Nat} : IsE g ws src st h t ↔ IsE g ws' src st h t :=
  ⟨fun a => ⟨a.1.alike hw, fun t' r => a.2 t' (r.alike fun h t => (hw h t).symm)⟩, fun a => ⟨a.1.alike fun h t => (hw h t).symm, fun t' r => a.2 t' (r.alike hw)⟩⟩
theorem arr_alike (G : g.Ok) (hs : src < g.h) {ws' : List Wt} (hw : ∀ h t, awake (ws.getD h []) t = awake (ws'.getD h []) t) : arrL g ws src st = arrL g ws' src st :=
  list_ext_getD (by rw [arr_len, arr_len]) fun i v => by rw [arr_iff G hs, arr_iff G hs, isE_alike hw]
end
theorem awake_false (n t : Nat) : awake (List.replicate n false) t = none := by
  refine awake_none fun j _ => ?_
  unfold awk
  rw [List.getD_eq_getElem?_getD, List.getElem?_replicate]
  split <;> rfl
/-- the law's own watches with one that always sleeps -/
def asleepL (ws : List Wt) (i : Nat) : List Wt := ws.take i ++ [List.replicate (ws.getD i []).length false] ++ ws.drop (i + 1)
theorem mid_get {ws : List Wt} {i : Nat} {w : Wt} (hi : i < ws.length) (h : Nat) : (ws.take i ++ [w] ++ ws.drop (i + 1)).getD h [] = if h = i then w else ws.getD h [] := by
  rw [List.append_assoc, List.getD_eq_getElem?_getD]
  have lt : (ws.take i).length = i := by rw [List.length_take]; omega
  rcases Nat.lt_trichotomy h i with z | z | z
  · rw [if_neg (by omega), List.getElem?_append_left (by omega), List.getElem?_take_of_lt z, List.getD_eq_getElem?_getD]
  · subst z
    rw [if_pos rfl, List.getElem?_append_right (by omega), lt, Nat.sub_self]
    rfl
  · rw [if_neg (by omega), List.getElem?_append_right (by omega), lt]
    obtain ⟨k, rfl⟩ : ∃ k, h = i + 1 + k := ⟨h - (i + 1), by omega⟩
    rw [show i + 1 + k - i = k + 1 by omega, List.singleton_append, List.getElem?_cons_succ, List.getElem?_drop, List.getD_eq_getElem?_getD]
theorem asleep_alike {ws : List Wt} {i : Nat} (hi : i < ws.length) (h t : Nat) : awake ((asleepW ws i).getD h []) t = awake ((asleepL ws i).getD h []) t := by
  unfold asleepW asleepL
  rw [mid_get hi, mid_get hi]
  split
  · rw [awake_false]
    exact awake_false 1 t
  · rfl
/-! ### turns -/
theorem fold_dvd : ∀ (ws : List Wt) (t : Nat), t ∣ ws.foldl (fun t w => tStp t w.length) t ∧ ∀ w ∈ ws, w.length ∣ ws.foldl (fun t w => tStp t w.length) t
  | [], t => ⟨Nat.dvd_refl _, fun w h => by cases h⟩
  | w :: r, t => by
    obtain ⟨h1, h2⟩ := fold_dvd r (tStp t w.length)
    have e : tStp t w.length = Nat.lcm t w.length := tStp_lcm _ _
    refine ⟨Nat.dvd_trans (by rw [e]; exact Nat.dvd_lcm_left _ _) h1, fun x hx => ?_⟩
    rcases List.mem_cons.mp hx with rfl | hx
    · exact Nat.dvd_trans (by rw [e]; exact Nat.dvd_lcm_right _ _) h1
    · exact h2 x hx
theorem fold_least : ∀ (ws : List Wt) (t m : Nat), t ∣ m → (∀ w ∈ ws, w.length ∣ m) → ws.foldl (fun t w => tStp t w.length) t ∣ m
  | [], _, _, h, _ => h
  | w :: r, t, m, h, hw => fold_least r _ m (by
      show tStp t w.length ∣ m
      rw [tStp_lcm]
      exact Nat.lcm_dvd h (hw w List.mem_cons_self)) fun x hx => hw x (List.mem_cons_of_mem _ hx)
theorem turn_all (ws : List Wt) (h : Nat) (hh : ws.getD h [] ≠ []) : (ws.getD h []).length ∣ turnL ws := by
  refine (fold_dvd ws 1).2 _ ?_
  rw [List.getD_eq_getElem?_getD] at hh ⊢
  cases e : ws[h]? with
  | none => rw [e] at hh; exact absurd rfl hh
  | some w => exact List.mem_of_getElem? e
/-! ### both delays -/
theorem del_eq {g : Nt} {ws : List Wt} {s t : Nat} (G : g.Ok) (hs : s < g.h) (hw : ∀ w ∈ ws, 1 ≤ w.length ∧ w.length ≤ 4) : delB g ws s t = delL g ws s t := by
  have hw4 : ∀ h, (ws.getD h []).length ≤ 4 := fun h => by
    rw [List.getD_eq_getElem?_getD]
    cases e : ws[h]? with
    | none => exact Nat.zero_le _
    | some w => exact (hw w (List.mem_of_getElem? e)).2
  unfold delB delL
  refine List.map_congr_left fun st _ => ?_
  unfold bOne dOne
  rw [burn_eq G hs hw4]
theorem asleepL_ok {g : Nt} {ws : List Wt} {i : Nat} (l : ws.length = g.h) (ok : ∀ w ∈ ws, 1 ≤ w.length ∧ w.length ≤ 4) (hi : i < g.h) : (asleepL ws i).length = g.h ∧ ∀ w ∈ asleepL ws i, 1 ≤ w.length ∧ w.length ≤ 4 := by
  have hm : ws.getD i [] ∈ ws := by
    rw [List.getD_eq_getElem?_getD, List.getElem?_eq_getElem (show i < ws.length by omega)]
    exact List.getElem_mem _
  refine ⟨?_, fun w hw => ?_⟩
  · unfold asleepL
    rw [List.length_append, List.length_append, List.length_take, List.length_drop]
    show min i ws.length + 1 + _ = _
    omega
  · unfold asleepL at hw
    rw [List.mem_append, List.mem_append] at hw
    rcases hw with (hw | hw) | hw
    · exact ok w (List.mem_of_mem_take hw)
    · rw [List.mem_singleton.mp hw, List.length_replicate]
      exact ok _ hm
    · exact ok w (List.mem_of_mem_drop hw)
theorem turn_len {a b : List Wt} (h : a.map List.length = b.map List.length) : turnL a = turnL b := by
  have : ∀ (ws : List Wt) (t : Nat), ws.foldl (fun t w => tStp t w.length) t = (ws.map List.length).foldl tStp t := fun ws => by
    induction ws with
    | nil => exact fun _ => rfl
    | cons w r ih => exact fun t => ih _
  unfold turnL
  rw [this, this, h]
theorem asleepL_lens {ws : List Wt} {i : Nat} (hi : i < ws.length) : (asleepL ws i).map List.length = ws.map List.length := by
  refine List.ext_getElem? fun h => ?_
  have e : ∀ (l : List Wt) (h : Nat), h < l.length → (l.map List.length)[h]? = some (l.getD h []).length := fun l h hh => by
    rw [List.getElem?_map, List.getD_eq_getElem?_getD, List.getElem?_eq_getElem hh]
    rfl
  have hl : (asleepL ws i).length = ws.length := by
    unfold asleepL
    rw [List.length_append, List.length_append, List.length_take, List.length_drop]
    show min i ws.length + 1 + _ = _
    omega
  rcases Nat.lt_or_ge h ws.length with z | z
  · rw [e _ _ (by omega), e _ _ z]
    unfold asleepL
    rw [mid_get hi]
    split
    · rename_i q
      rw [List.length_replicate, q]
    · rfl
  · rw [List.getElem?_eq_none (by rw [List.length_map]; omega), List.getElem?_eq_none (by rw [List.length_map]; omega)]
theorem need_eq {g : Nt} {ws : List Wt} {s t i : Nat} (G : g.Ok) (hs : s < g.h) (hi : i < g.h) (l : ws.length = g.h) (hw : ∀ w ∈ ws, 1 ≤ w.length ∧ w.length ≤ 4) :
    (List.range (delL g ws s t).length).any (longP (delL g ws s t) (delL g (asleepW ws i) s t)) = decide (delB g (asleepL ws i) s t ≠ delB g ws s t) := by
  obtain ⟨al, aok⟩ := asleepL_ok l hw hi
  have e1 : delB g (asleepL ws i) s t = delL g (asleepL ws i) s t := del_eq G hs aok
  have e2 : delB g ws s t = delL g ws s t := del_eq G hs hw
  rw [e1, e2]
  have hT : turnL (asleepL ws i) = turnL ws := turn_len (asleepL_lens (by omega))
  have hdv : turnL (asleepW ws i) ∣ turnL ws := by
    refine fold_least _ 1 _ (Nat.one_dvd _) fun w hw2 => ?_
    unfold asleepW at hw2
    rw [List.mem_append, List.mem_append] at hw2
    rcases hw2 with (hw2 | hw2) | hw2
    · exact (fold_dvd ws 1).2 w (List.mem_of_mem_take hw2)
    · rw [List.mem_singleton.mp hw2]
      exact Nat.one_dvd _
    · exact (fold_dvd ws 1).2 w (List.mem_of_mem_drop hw2)
  have hw8 : ∀ w ∈ ws, 1 ≤ w.length ∧ w.length ≤ 8 := fun w h => ⟨(hw w h).1, by have := (hw w h).2; omega⟩
  obtain ⟨wl, wok⟩ := asleep_ok l hw8 hi
  obtain ⟨tp, _⟩ := turn_pos wok
  have key : ∀ st, dOne g (asleepL ws i) s t st = dOne g (asleepW ws i) s t (st % turnL (asleepW ws i)) := fun st => by
    unfold dOne
    rw [← arr_alike G hs (asleep_alike (ws := ws) (i := i) (by omega))]
    generalize hd : turnL (asleepW ws i) * (st / turnL (asleepW ws i)) = d
    have est : st = st % turnL (asleepW ws i) + d := by rw [← hd]; exact (Nat.mod_add_div _ _).symm
    have hdd : ∀ h, (asleepW ws i).getD h [] ≠ [] → ((asleepW ws i).getD h []).length ∣ d := fun h hh => by
      rw [← hd]
      exact Nat.dvd_trans (turn_all _ h hh) (Nat.dvd_mul_right _ _)
    generalize st % turnL (asleepW ws i) = r at est
    subst est
    rw [arr_shift G hs hdd]
    cases (arrL g (asleepW ws i) s r).getD t none with
    | none => rfl
    | some v =>
      show some (v + d - (r + d)) = some (v - r)
      congr 1
      omega
  rw [Bool.eq_iff_iff, List.any_eq_true, decide_eq_true_eq, del_len]
  have gD : ∀ (ws : List Wt) (st : Nat), st < turnL ws → (delL g ws s t).getD st none = dOne g ws s t st := fun ws st h => by
    unfold delL
    rw [List.getD_eq_getElem?_getD, List.getElem?_map, List.getElem?_range h]
    rfl
  constructor
  · rintro ⟨st, hst, hp⟩ heq
    have hst := List.mem_range.mp hst
    unfold longP at hp
    rw [decide_eq_true_eq, del_len] at hp
    refine hp ?_
    rw [gD _ _ (Nat.mod_lt _ tp), ← key, ← heq, gD _ _ (by omega)]
  · intro hne
    refine Classical.byContradiction fun hno => hne ?_
    unfold delL
    rw [hT]
    refine List.map_congr_left fun st hst => ?_
    have hst2 := List.mem_range.mp hst
    have : longP (delL g ws s t) (delL g (asleepW ws i) s t) st = false := by
      cases hb : longP (delL g ws s t) (delL g (asleepW ws i) s t) st with
      | false => rfl
      | true => exact absurd ⟨st, hst, hb⟩ hno
    unfold longP at this
    rw [decide_eq_false_iff_not, del_len, gD _ _ hst2, gD _ _ (Nat.mod_lt _ tp), ← key] at this
    exact (Classical.not_not.mp this).symm
end Fs

set_option Elab.async false
set_option linter.all false
set_option maxRecDepth 100000
set_option maxHeartbeats 4000000
set_option pp.deepTerms false
set_option pp.maxSteps 400
/-! Firesseen: the law on one draw (k03): the refusals -/
namespace Fs
open PySem PySem.Spec L2 LamX
abbrev NR : List Str := ["dice", "net", "watches", "source", "target", "start", "small", "due", "rows", "worst", "mean", "divisor", "found", "hill", "later", "bad", "told", "step"]
section
variable {e : En}
theorem refused_body (T : Top e) : ∀ (X : Cx) (g : Addr) (cdv : Value), BadTxt X.prog X.K X.mg e.CB e.fI → LamX.GivesTo X ["call", "e"] "_law_refused" (defScope stLawRefused) g cdv (defBody stLawRefused) "call" (X.env.qual ++ "<lambda>") (TTref e.CB) := fun X g cdv B =>
  refused_gives B rfl rfl (fun _ => rfl) (fun _ _ => rfl)
/-- a law's _law_refused(lambda: ..) -/
theorem ed_ref {f : Addr} {A0 : Around} {outer0 : List Env} {s0 : Shared} {H0 : Hp} {E0 : XK} {c : Cfg} {δ : List Sd} {x : Str} {params : Arguments} {scope : Scope} {p lpos pos p1 cpos : Pos} {a : Expr} {es : List Expr} {n : Nat} {ps : List Str} {R : List D → Res → Prop} {ds : List D} {r : Res} {v : Str}
    (T : Top e) (hr : Room 11 (A0.deeper (PyProof.Rows.envOfC "_law_right" (defScope stLawRight) s0.heap.objs.size f (.ref (e.ct "_law_right").1)))) (hcT : c.T = e.T) (C : e.Cal e.CX n x ps R) (hn : n ≤ 9)
    (ha : ∀ A outer s H E f' c', EA (lamCx (e.cxN NR "_law_right" stLawRight f A0 outer0 s0 H0 E0) A outer s H E scope f' c') c δ (a :: es) ds) (hR : R ds r) (hgx : ∀ A outer s H E f' c', Gl (lamCx (e.cxN NR "_law_right" stLawRight f A0 outer0 s0 H0 E0) A outer s H E scope f' c') x) (L : LamS (defScope stLawRight) scope) (hv : nmR r = v)
    (hdef : defaultsOf params (e.cxN NR "_law_right" stLawRight f A0 outer0 s0 H0 E0).env = ([], []) := by rfl) (hbind : ∀ (q : Str) (cl : List (Str × Addr)) (pm cv ctv : Value), bindArgs (PySem.W.kla_fn "<lambda>" q params (.Call (.Name x p1) (a :: es) [] cpos) scope cl pm cv ctv) ⟨[], []⟩ = pure [] := by intros; rfl)
    (hdb : (x == ("__debug__" : Str)) = false := by decide) (he : ∀ A outer s H E f' c', starEach (a :: es) (lamCx (e.cxN NR "_law_right" stLawRight f A0 outer0 s0 H0 E0) A outer s H E scope f' c').env = (false, eval a (lamCx (e.cxN NR "_law_right" stLawRight f A0 outer0 s0 H0 E0) A outer s H E scope f' c').env) :: starEach es (lamCx (e.cxN NR "_law_right" stLawRight f A0 outer0 s0 H0 E0) A outer s H E scope f' c').env := by intros; rfl) (hpl : ∀ A outer s H E f' c', (backTo cpos (starEach es (lamCx (e.cxN NR "_law_right" stLawRight f A0 outer0 s0 H0 E0) A outer s H E scope f' c').env)).any (·.1) = false := by intros; rfl) :
    ED (e.cxN NR "_law_right" stLawRight f A0 outer0 s0 H0 E0) c δ (.Call (.Name "_law_refused" p) [.Lambda params (.Call (.Name x p1) (a :: es) [] cpos) scope lpos] [] pos) (.str v) := by
  have h1 := (T.lams "_law_right" (by decide +kernel)).1
  have h2 := (T.lams "_law_right" (by decide +kernel)).2
  have h3 := T.tabs "_law_right" (by decide +kernel)
  rw [← hv]
  have C' : Cal e.P e.w e.K e.mg e.base (L2.CX e.P e.w) n x ps (spD c.T e.CB R) := by rw [hcT]; exact C
  exact ed_refused (X := e.cxN NR "_law_right" stLawRight f A0 outer0 s0 H0 E0) T.lawRefused rfl rfl rfl T.bad (refused_body T) ⟨rfl, rfl, rfl, by decide +kernel, rfl, by decide +kernel, by decide +kernel⟩ (.inl rfl) (fun _ _ _ _ _ _ us hl => match us, hl with | [_], _ => rfl)
    h3 rfl (by rw [hcT]; exact h1) (by rw [hcT]; exact h2) hr hn C' ha hR hgx L (by rfl) hdef hbind hdb he hpl
end
end Fs

set_option Elab.async false
set_option linter.all false
set_option maxRecDepth 100000
set_option maxHeartbeats 4000000
set_option pp.deepTerms false
set_option pp.maxSteps 400
/-! Firesseen: the law on one draw (k03): what is drawn -/
namespace Fs
open PySem PySem.Spec L2 LamX

/-- the start as the law's own walk takes it -/
def smallOf (n : Nat) : Nat := if n > 1000 then n % 12 else n
section
variable {e : En}
theorem headK (T : Top e) {f : Addr} {A0 : Around} {outer0 : List Env} {s0 : Shared} {H0 : Hp} {E0 : XK} {F : Hp} {ad : Addr} {Dn : Ends} {st : Dc}
    (hr : Room 11 (A0.deeper (PyProof.Rows.envOfC "_law_right" (defScope stLawRight) s0.heap.objs.size f (.ref (e.ct "_law_right").1)))) (ok : st.Ok 0) (hMx : ∀ b ∈ [ad], H0 b ≠ none)
    (next : ∀ (g : Nt) (ws : List Wt) (s t n : Nat) (st2 : Dc), ws.length = g.h → (∀ w ∈ ws, 1 ≤ w.length ∧ w.length ≤ 4) → s < g.h → t < g.h → g.Ok →  n ≤ 1000000000000 → st2.Ok 1000 → WS (e.cxN NR "_law_right" stLawRight f A0 outer0 s0 H0 E0) (cfgM e.T ad F H0) [.m ad (eDc st2), .d (eN g), .d (eWs ws), .d (nD s), .d (nD t), .d (nD n), .d (nD (smallOf n)), .un, .un, .un, .un, .un, .un, .un, .un, .un, .un, .un] ((defBody stLawRight).drop 4) Dn) :
    WS (e.cxN NR "_law_right" stLawRight f A0 outer0 s0 H0 E0) (cfgM e.T ad F H0) (argsM NR ad (eDc st) []) (defBody stLawRight) Dn := by
  have nd : NR.Nodup := by decide +kernel
  have R := cal_roll T
  refine ws_cons (w_setM 1 nd (em_callM 0 (cal_lnet T) pass0 (hr.mono (by decide)) rfl List.mem_cons_self (ema_cons (ED.mm (d := nD 5) ed_int (ema_nil ⟨_, rfl, ⟨st, 0, 5, rfl, rfl, ok, by decide, by decide, by decide⟩, ?_⟩)))))
  rintro r xs' ⟨sa, sb, m, g, h1, h2, rfl, h4, G, h5, rfl⟩
  cases eDc_inj h1
  have ok1 := h4 0 ok
  have h9 := G.h9
  have hg1 := G.h1
  refine ⟨_, rfl, ?_⟩
  show WS _ _ [.m ad (eDc sb), .d (eN g), .un, .un, .un, .un, .un, .un, .un, .un, .un, .un, .un, .un, .un, .un, .un, .un] _ _
  refine ws_cons (w_asgM (em_tup (ema_cons (em_callM 0 (cal_lwatches T) pass0 (hr.mono (by decide)) rfl List.mem_cons_self (ema_cons (ED.mm (ed_name 1 rfl) (ema_nil ⟨_, rfl, ⟨sb, 0 + 100, g, rfl, rfl, ok1, by decide, G⟩, ?_⟩)))))))
  rintro r xs' ⟨sa, sc, g2, ws, h1, h2, rfl, h4, hl, hw, rfl⟩
  cases eDc_inj h1
  have eg2 : g2 = g := by
    injection h2 with h2 _
    exact (net_inj h2).symm
  subst eg2
  have ok2 := h4 _ ok1
  refine ⟨_, rfl, ?_⟩
  show EMA _ _ [.m ad (eDc sc), .d (eN g2), .un, .un, .un, .un, .un, .un, .un, .un, .un, .un, .un, .un, .un, .un, .un, .un] _ _
  refine ema_cons (em_roll 0 R (hr.mono (by decide)) rfl List.mem_cons_self ok2 (ed_ix (ED.tq (ed_name 1 rfl)) ed_int net0) (by decide) (by omega) (by omega) ?_)
  intro v1 s5 v10 v11 ok3
  refine ema_cons (em_roll 0 R (hr.mono (by decide)) rfl List.mem_cons_self ok3 (ed_ix (ED.tq (ed_name 1 rfl)) ed_int net0) (by decide) (by omega) (by omega) ?_)
  intro v2 s6 v20 v21 ok4
  refine ema_nil ⟨of_decide_eq_true rfl, _, _, eg_tup rfl (egs_cons (eg_name 2 nd) (egs_cons (eg_name 3 nd) (egs_cons (eg_name 4 nd) egs_nil))), ?_⟩
  obtain ⟨s, rfl⟩ : ∃ n : Nat, v1 = (n : Int) := ⟨v1.toNat, by omega⟩
  obtain ⟨t, rfl⟩ : ∃ n : Nat, v2 = (n : Int) := ⟨v2.toNat, by omega⟩
  show WS _ _ [.m ad (eDc s6), .d (eN g2), .d (eWs ws), .d (nD s), .d (nD t), .un, .un, .un, .un, .un, .un, .un, .un, .un, .un, .un, .un, .un] _ _
  refine ws_cons (w_setM 5 nd (em_callM 0 (cal_pick T) pass0 (hr.mono (by decide)) rfl List.mem_cons_self (ema_cons (em_lst (ema_cons (ED.mm ed_int (ema_cons (em_roll 0 R (hr.mono (by decide)) rfl List.mem_cons_self ok4 ed_int (by decide) (by decide) (by decide) ?_))))))))
  intro v3 s7 v30 v31 ok5
  have e12 : (10 : Int) ^ (12 : Int).toNat = 1000000000000 := rfl
  refine ema_cons (em_sub (ED.mm (edC (ed_pow ed_int ed_int ⟨by decide, by decide, by decide⟩) (congrArg PyData.int e12)) ⟨1000000000000, rfl, em_roll 0 R (hr.mono (by decide)) rfl List.mem_cons_self ok5 ed_int (by decide) (by decide) (by decide) ?_⟩))
  intro v4 s8 v40 v41 ok6
  refine ⟨v4, rfl, ema_nil ⟨of_decide_eq_true rfl, ema_nil ⟨_, rfl, ⟨s8, _, [.int 0, .int v3, .int (1000000000000 - v4)], rfl, rfl, ok6, by decide, by show 0 < 3; decide, by show 3 < _; decide⟩, ?_⟩⟩⟩
  rintro r xs' ⟨sa, sc2, ts, d, h1, h2, rfl, h4, hd, rfl⟩
  cases eDc_inj h1
  injection h2 with h2 _
  injection h2 with h2
  subst h2
  have ok7 := h4 _ ok6
  obtain ⟨n, hn, rfl⟩ : ∃ n : Nat, n ≤ 1000000000000 ∧ d = nD n := by
    simp only [List.mem_cons, List.not_mem_nil, or_false] at hd
    rcases hd with rfl | rfl | rfl
    · exact ⟨0, by decide, rfl⟩
    · exact ⟨v3.toNat, by omega, congrArg PyData.int (by omega)⟩
    · exact ⟨(1000000000000 - v4).toNat, by omega, congrArg PyData.int (by omega)⟩
  refine ⟨_, rfl, ?_⟩
  show WS _ _ [.m ad (eDc sc2), .d (eN g2), .d (eWs ws), .d (nD s), .d (nD t), .d (nD n), .un, .un, .un, .un, .un, .un, .un, .un, .un, .un, .un, .un] _ _
  refine ws_cons (w_set 6 (d := nD (smallOf n)) nd (ED.cast (ed_if (d2 := nD n) (ec_gt (ed_name 5 rfl) ed_int).et (fun _ => ed_mod (ed_name 5 rfl) ed_int (by decide)) (fun _ => ed_name 5 rfl)) ?_) ?_)
  · unfold smallOf
    by_cases h : n > 1000
    · rw [if_pos h, decide_eq_true (by omega), if_pos rfl]
      exact congrArg PyData.int (by omega)
    · rw [if_neg h, decide_eq_false (by omega)]
      rfl
  · exact next g2 ws s t n sc2 hl hw (by omega) (by omega) G hn (ok7.up (by decide))
end
end Fs

set_option Elab.async false
set_option linter.all false
set_option maxRecDepth 100000
set_option maxHeartbeats 4000000
set_option pp.deepTerms false
set_option pp.maxSteps 400
/-! Firesseen: the law on one draw (k03): arrivals, delays -/
namespace Fs
open PySem PySem.Spec L2 LamX

theorem shp_oN (o : Option Nat) : Shp 0 (oN o) := by
  cases o with
  | none => exact shp_none
  | some n => exact shp_int _
theorem shp_oNs (l : List (Option Nat)) : Shp 1 (.tuple (l.map oN)) := Shp.tup fun d hd => by
  obtain ⟨o, _, rfl⟩ := List.mem_map.mp hd
  exact shp_oN o
theorem shp_oNl (l : List (Option Nat)) : Shp 1 (.list (l.map oN)) := Shp.lst fun d hd => by
  obtain ⟨o, _, rfl⟩ := List.mem_map.mp hd
  exact shp_oN o
theorem all_dvd {ws : List Wt} (hw : ∀ w ∈ ws, 1 ≤ w.length ∧ w.length ≤ 4) {d : Nat} (h12 : 12 ∣ d) (h : Nat) (hne : ws.getD h [] ≠ []) : (ws.getD h []).length ∣ d := by
  rw [List.getD_eq_getElem?_getD] at hne ⊢
  cases e : ws[h]? with
  | none => rw [e] at hne; exact absurd rfl hne
  | some w =>
    obtain ⟨h1, h4⟩ := hw w (List.mem_of_getElem? e)
    refine Nat.dvd_trans ?_ h12
    show w.length ∣ 12
    have : w.length = 1 ∨ w.length = 2 ∨ w.length = 3 ∨ w.length = 4 := by omega
    rcases this with e | e | e | e <;> rw [e] <;> decide
theorem hw4 {ws : List Wt} (hw : ∀ w ∈ ws, 1 ≤ w.length ∧ w.length ≤ 4) (h : Nat) : (ws.getD h []).length ≤ 4 := by
  rw [List.getD_eq_getElem?_getD]
  cases e : ws[h]? with
  | none => exact Nat.zero_le _
  | some w => exact (hw w (List.mem_of_getElem? e)).2
theorem due_eq {g : Nt} {ws : List Wt} {s n : Nat} (G : g.Ok) (hs : s < g.h) (hw : ∀ w ∈ ws, 1 ≤ w.length ∧ w.length ≤ 4) : (burnL g ws s (smallOf n)).map (fun o => o.map fun v => v - smallOf n + n) = arrL g ws s n := by
  rw [burn_eq G hs (hw4 hw)]
  obtain ⟨d, h12, e⟩ : ∃ d, 12 ∣ d ∧ n = smallOf n + d := by
    unfold smallOf
    split
    · exact ⟨12 * (n / 12), Nat.dvd_mul_right _ _, (Nat.mod_add_div n 12).symm⟩
    · exact ⟨0, Nat.dvd_zero _, rfl⟩
  have hsh := arr_shift (st := smallOf n) G hs (all_dvd hw h12)
  have lb := arr_lb g ws s (smallOf n)
  rw [← e] at hsh
  refine list_ext_getD (by rw [List.length_map, arr_len, arr_len]) fun i v => ?_
  rw [hsh i]
  have hi := lb i
  have e2 : ((arrL g ws s (smallOf n)).map (fun o => o.map fun v => v - smallOf n + n)).getD i none = ((arrL g ws s (smallOf n)).getD i none).map fun v => v - smallOf n + n := by
    rw [List.getD_eq_getElem?_getD, List.getD_eq_getElem?_getD, List.getElem?_map]
    cases (arrL g ws s (smallOf n))[i]? with
    | none => rfl
    | some o => rfl
  rw [e2]
  cases h : (arrL g ws s (smallOf n)).getD i none with
  | none => rfl
  | some u =>
    have := hi u h
    show some (u - smallOf n + n) = some v ↔ some (u + d) = some v
    rw [show u - smallOf n + n = u + d by omega]
section
variable {e : En}
theorem arr_good {d dw : D} {g : Nt} {ws : List Wt} {s n : Nat} (W : GoodW d dw g ws) (hs : s < g.h) (hn : n ≤ 1000000000000) : rArrivals [eN g, eWs ws, nD s, nD n] (.d (.tuple ((arrL g ws s n).map oN))) := by
  have e1 := W.hd
  have e2 := W.hw
  subst e1 e2
  refine ⟨_, _, _, _, .d (.tuple ((arrL g ws s n).map oN)), rfl, few_net W.G, ?_, fun g' ws' s' n' W' h1 _ h2 _ => ?_⟩
  · rw [kW_good (net_is W.G) (by rw [hOf_eN]; exact areW_good W.len W.ok), hOf_eN, kI_good (hill_in hs), kI_good (by simp only [inI, nD, Bool.and_eq_true, decide_eq_true_eq]; omega)]
  · obtain ⟨rfl, rfl⟩ := W.uniq W'
    rw [nD_inj h1, nD_inj h2]
theorem midK (T : Top e) {f : Addr} {A0 : Around} {outer0 : List Env} {s0 : Shared} {H0 : Hp} {E0 : XK} {F : Hp} {ad : Addr} {Dn : Ends} {st : Dc} {g : Nt} {ws : List Wt} {s t n : Nat}
    (hr : Room 11 (A0.deeper (PyProof.Rows.envOfC "_law_right" (defScope stLawRight) s0.heap.objs.size f (.ref (e.ct "_law_right").1)))) (hl : ws.length = g.h) (hw : ∀ w ∈ ws, 1 ≤ w.length ∧ w.length ≤ 4) (hs : s < g.h) (ht : t < g.h) (G : g.Ok) (hn : n ≤ 1000000000000)
    (next : WS (e.cxN NR "_law_right" stLawRight f A0 outer0 s0 H0 E0) (cfgM e.T ad F H0) [.m ad (eDc st), .d (eN g), .d (eWs ws), .d (nD s), .d (nD t), .d (nD n), .d (nD (smallOf n)), .l ((arrL g ws s n).map oN), .d (.list ((delL g ws s t).map oN)), .un, .un, .un, .un, .un, .un, .un, .un, .un] ((defBody stLawRight).drop 9) Dn) :
    WS (e.cxN NR "_law_right" stLawRight f A0 outer0 s0 H0 E0) (cfgM e.T ad F H0) [.m ad (eDc st), .d (eN g), .d (eWs ws), .d (nD s), .d (nD t), .d (nD n), .d (nD (smallOf n)), .un, .un, .un, .un, .un, .un, .un, .un, .un, .un, .un] ((defBody stLawRight).drop 4) Dn := by
  have nd : NR.Nodup := by decide +kernel
  have hsm : smallOf n ≤ 1000 := by unfold smallOf; split <;> omega
  have W : GoodW (eN g) (eWs ws) g ws := ⟨rfl, G, rfl, hl, fun w h => ⟨(hw w h).1, by have := (hw w h).2; omega⟩⟩
  have lbd := burn_lb g ws s (smallOf n)
  refine ws_cons (w_set 7 (d := .list ((burnL g ws s (smallOf n)).map oN)) nd (EL.ed (el_call (cal_burn T) pass0 (hr.mono (by decide)) (ea_cons (ed_name 1 rfl) (ea_cons (ed_name 2 rfl) (ea_cons (ed_name 3 rfl) (ea_cons (ed_name 6 rfl) ea_nil)))) ⟨g, ws, s, smallOf n, G, hl, hw, hs, by omega, rfl, rfl⟩)) ?_)
  show WS _ _ [.m ad (eDc st), .d (eN g), .d (eWs ws), .d (nD s), .d (nD t), .d (nD n), .d (nD (smallOf n)), .d (.list ((burnL g ws s (smallOf n)).map oN)), .un, .un, .un, .un, .un, .un, .un, .un, .un, .un] _ _
  refine ws_cons (w_setLc 7 (own := [("step", 17)]) (kb := fun _ => true) (f := fun x => match x with | .int i => .int (i - (smallOf n : Nat) + (n : Nat)) | _ => .none) (δx := fun x => [.m ad (eDc st), .d (eN g), .d (eWs ws), .d (nD s), .d (nD t), .d (nD n), .d (nD (smallOf n)), .d (.list ((burnL g ws s (smallOf n)).map oN)), .un, .un, .un, .un, .un, .un, .un, .un, .un, .d x]) (blkOk_by (N := NR) (sc := defScope stLawRight) (by decide +kernel)) nd rfl (ei_lst (ed_name 7 rfl)).toC ?_ (fun x hx s H C cl fp => eg_name 17 nd) (fun x hx s H C cl fp => eps_nil) (fun x hx _ s H C cl fp => ?_) ?_)
  · rw [List.length_map, burn_len, szl]
    have := G.h9
    omega
  · obtain ⟨o, ho, rfl⟩ := List.mem_map.mp hx
    cases o with
    | none =>
      show ED _ _ _ _ PyData.none
      exact ed_ifc (ec_isN (ed_name 17 rfl)).et (fun _ => ed_non) (fun z => by cases z)
    | some v =>
      show ED _ _ _ _ (PyData.int ((v : Nat) - (smallOf n : Nat) + (n : Nat)))
      exact ed_ifc (ec_isN (ed_name 17 rfl)).et (fun z => by cases z) (fun _ => ed_add (ed_sub (ed_name 17 rfl) (ed_name 6 rfl)) (ed_name 5 rfl))
  have elc : lcD (fun _ => true) (fun x : D => match x with | .int i => PyData.int (i - (smallOf n : Nat) + (n : Nat)) | _ => .none) ((burnL g ws s (smallOf n)).map oN) = (arrL g ws s n).map oN := by
    rw [← due_eq (n := n) G hs hw]
    unfold lcD
    rw [List.filter_eq_self.mpr (fun _ _ => rfl), List.map_map, List.map_map]
    refine List.map_congr_left fun o ho => ?_
    cases o with
    | none => rfl
    | some v =>
      obtain ⟨i, hi, e9⟩ := List.mem_iff_getElem.mp ho
      have := lbd i v (by rw [List.getD_eq_getElem?_getD, List.getElem?_eq_getElem hi, e9]; rfl)
      show PyData.int ((v : Int) - (smallOf n : Nat) + (n : Nat)) = .int (((v - smallOf n + n : Nat)) : Int)
      congr 1
      omega
  rw [elc]
  show WS _ _ [.m ad (eDc st), .d (eN g), .d (eWs ws), .d (nD s), .d (nD t), .d (nD n), .d (nD (smallOf n)), .l ((arrL g ws s n).map oN), .un, .un, .un, .un, .un, .un, .un, .un, .un, .un] _ _
  refine ws_cons (w_if (k := false) (ET.cast (ec_neD (room_u64 hr) (ed_callN (calN_arrivals T) passL (hr.mono (by decide)) (ea_cons (ed_name 1 rfl) (ea_cons (ed_name 2 rfl) (ea_cons (ed_name 3 rfl) ea_nil))) (ek_cons (ed_name 5 rfl) ek_nil) rfl rfl (arr_good W hs hn)) (ed_tuple (er_name 7 rfl) T.bTuple) (shp_oNs _).shaped (shp_oNs _).shaped).et (by rw [eqv_self (shp_oNs _)]; rfl)) (fun z => by cases z) (fun _ => ws_nil ?_))
  refine WS.nx ?_
  refine ws_cons (w_set 8 (d := .list ((delL g ws s t).map oN)) nd (ED.cast (EL.ed (el_call (cal_delB T) pass0 (hr.mono (by decide)) (ea_cons (ed_name 1 rfl) (ea_cons (ed_name 2 rfl) (ea_cons (ed_name 3 rfl) (ea_cons (ed_name 4 rfl) ea_nil)))) ⟨g, ws, s, t, G, hl, hw, hs, ht, rfl, rfl⟩)) (by rw [del_eq G hs hw])) ?_)
  show WS _ _ [.m ad (eDc st), .d (eN g), .d (eWs ws), .d (nD s), .d (nD t), .d (nD n), .d (nD (smallOf n)), .l ((arrL g ws s n).map oN), .d (.list ((delL g ws s t).map oN)), .un, .un, .un, .un, .un, .un, .un, .un, .un] _ _
  refine ws_cons (w_if (k := false) (ET.cast (ec_neD (room_u64 hr) (ed_callNz (calN_delays T) passL (hr.mono (by decide)) (ea_cons (ed_name 1 rfl) (ea_cons (ed_name 2 rfl) (ea_cons (ed_name 3 rfl) ea_nil))) (ek_cons (ed_name 4 rfl) ek_nil) rfl rfl (del_good W hs ht)) (ed_tuple (ED.r (ed_name 8 rfl)) T.bTuple) (shp_oNs _).shaped (shp_oNs _).shaped).et (by rw [eqv_self (shp_oNs _)]; rfl)) (fun z => by cases z) (fun _ => ws_nil ?_))
  exact next
end
end Fs

set_option Elab.async false
set_option linter.all false
set_option maxRecDepth 100000
set_option maxHeartbeats 4000000
set_option pp.deepTerms false
set_option pp.maxSteps 400
/-! Firesseen: the law on one draw (k03): the worst and the mean delay -/
namespace Fs
open PySem PySem.Spec L2 LamX

theorem turn12 {ws : List Wt} (hw : ∀ w ∈ ws, 1 ≤ w.length ∧ w.length ≤ 4) : turnL ws ≤ 12 := by
  refine Nat.le_of_dvd (by decide) (fold_least ws 1 12 (Nat.one_dvd _) fun w h => ?_)
  obtain ⟨h1, h4⟩ := hw w h
  have : w.length = 1 ∨ w.length = 2 ∨ w.length = 3 ∨ w.length = 4 := by omega
  rcases this with e | e | e | e <;> rw [e] <;> decide
theorem shp_two (a b : Nat) : Shp 1 (.tuple [nD a, nD b]) := Shp.tup fun d hd => by
  simp only [List.mem_cons, List.not_mem_nil, or_false] at hd
  rcases hd with rfl | rfl
  · exact shp_int _
  · exact shp_int _
section
variable {e : En}
theorem worstK (T : Top e) {f : Addr} {A0 : Around} {outer0 : List Env} {s0 : Shared} {H0 : Hp} {E0 : XK} {F : Hp} {ad : Addr} {Dn : Ends} {st : Dc} {g : Nt} {ws : List Wt} {s t n : Nat}
    (hr : Room 11 (A0.deeper (PyProof.Rows.envOfC "_law_right" (defScope stLawRight) s0.heap.objs.size f (.ref (e.ct "_law_right").1)))) (hl : ws.length = g.h) (hw : ∀ w ∈ ws, 1 ≤ w.length ∧ w.length ≤ 4) (hs : s < g.h) (ht : t < g.h) (G : g.Ok)
    (next : WS (e.cxN NR "_law_right" stLawRight f A0 outer0 s0 H0 E0) (cfgM e.T ad F H0) [.m ad (eDc st), .d (eN g), .d (eWs ws), .d (nD s), .d (nD t), .un, .un, .un, .d (.list ((delL g ws s t).map oN)), .un, .un, .un, .un, .un, .un, .un, .un, .un] ((defBody stLawRight).drop 11) Dn) :
    WS (e.cxN NR "_law_right" stLawRight f A0 outer0 s0 H0 E0) (cfgM e.T ad F H0) [.m ad (eDc st), .d (eN g), .d (eWs ws), .d (nD s), .d (nD t), .d (nD n), .d (nD (smallOf n)), .l ((arrL g ws s n).map oN), .d (.list ((delL g ws s t).map oN)), .un, .un, .un, .un, .un, .un, .un, .un, .un] ((defBody stLawRight).drop 9) Dn := by
  have nd : NR.Nodup := by decide +kernel
  have W : GoodW (eN g) (eWs ws) g ws := ⟨rfl, G, rfl, hl, fun w h => ⟨(hw w h).1, by have := (hw w h).2; omega⟩⟩
  refine ws_cons (w_par2 9 10 nd rfl (EA.mm (ea_cons (ed_callN (calN_worst T) passL (hr.mono (by decide)) (ea_cons (ed_name 1 rfl) (ea_cons (ed_name 2 rfl) (ea_cons (ed_name 3 rfl) ea_nil))) (ek_cons (ed_name 4 rfl) ek_nil) rfl rfl (two_good W hs ht)) (ea_cons (ed_callN (calN_mean T) passL (hr.mono (by decide)) (ea_cons (ed_name 1 rfl) (ea_cons (ed_name 2 rfl) (ea_cons (ed_name 3 rfl) ea_nil))) (ek_cons (ed_name 4 rfl) ek_nil) rfl rfl (two_good W hs ht)) ea_nil)) ⟨_, _, rfl, ?_⟩))
  show WS _ _ [.m ad (eDc st), .d (eN g), .d (eWs ws), .d (nD s), .d (nD t), .d (nD n), .d (nD (smallOf n)), .l ((arrL g ws s n).map oN), .d (.list ((delL g ws s t).map oN)), .d (worstD (delL g ws s t)), .d (meanD (delL g ws s t)), .un, .un, .un, .un, .un, .un, .un] _ _
  have hln := del_len g ws s t
  have h12 := turn12 hw
  obtain ⟨tp, _⟩ := turn_pos W.ok
  generalize delL g ws s t = rows at hln next ⊢
  refine ws_cons (w_if (k := decide (none ∈ rows)) (ET.cast (ec_in ed_non (ED.lq (ed_name 8 rfl)) rfl (flat_oN rows)).et (inD_none rows)) (fun hk => ?_) (fun hk => ?_))
  · have hk := of_decide_eq_true hk
    have e1 : worstD rows = .none := if_pos hk
    have e2 : meanD rows = .none := if_pos hk
    rw [e1, e2]
    refine ws_one (w_if (k := false) (EW.et (ew_or (k := false) (l := false) (ET.cast (ec_notN (ed_name 9 rfl)).et rfl) fun _ => ew_or1 (ET.cast (ec_notN (ed_name 10 rfl)).et rfl))) (fun z => by cases z) (fun _ => ws_nil ?_))
    exact (WS.nx next).wk
  · have hn := of_decide_eq_false hk
    have e1 : worstD rows = .tuple [nD (maxL (valsOf rows)), nD ((valsOf rows).idxOf (maxL (valsOf rows)))] := if_neg hn
    have e2 : meanD rows = .tuple [nD ((valsOf rows).sum / Nat.gcd (valsOf rows).sum rows.length), nD (rows.length / Nat.gcd (valsOf rows).sum rows.length)] := if_neg hn
    have hvl := vals_len hn
    have hne : valsOf rows ≠ [] := fun z => by rw [z] at hvl; simp at hvl; omega
    have m1 := maxL_mem hne
    have m2 : ∀ y, y ∈ iN (valsOf rows) → y ≤ ((maxL (valsOf rows) : Nat) : Int) := fun y hy => by
      obtain ⟨n, hn, rfl⟩ := List.mem_map.mp hy
      exact Int.ofNat_le.mpr (maxL_le hn)
    have m3 : ((maxL (valsOf rows) : Nat) : Int) ∈ iN (valsOf rows) := List.mem_map.mpr ⟨_, m1, rfl⟩
    have gp : 0 < Nat.gcd (valsOf rows).sum rows.length := Nat.gcd_pos_of_pos_right _ (by omega)
    have gl : Nat.gcd (valsOf rows).sum rows.length ≤ rows.length := Nat.gcd_le_right _ (by omega)
    rw [vals_map hn] at next ⊢
    have lv : ((valsOf rows).map nD).length = rows.length := by rw [List.length_map, hvl]
    refine ws_cons (w_set 11 (d := nD (Nat.gcd (valsOf rows).sum rows.length)) nd (ed_call (cal_gcd T) pass0 (hr.mono (by decide)) (ea_cons (ED.cast (ed_sum (ns := iN (valsOf rows)) (ER.cast (ED.r (ed_name 8 rfl)) (iN_map _).symm) rfl T.bSum) (congrArg PyData.int (sum_iN _))) (ea_cons (ED.cast (ed_len (ED.lq (ed_name 8 rfl)) T.bLen) (congrArg (fun n : Nat => PyData.int (n : Int)) lv)) ea_nil)) ⟨(valsOf rows).sum, rows.length, by omega, rfl, rfl⟩) ?_)
    rw [e1, e2]
    refine ws_one (w_if (k := false) (EW.et (ew_or (k := false) (ET.cast (ec_neD (room_u64 hr) (ed_name 9 rfl) (ed_tup (ea_cons (ed_max (ns := iN (valsOf rows)) (ER.cast (ED.r (ed_name 8 rfl)) (iN_map _).symm) m3 m2 rfl T.bMax) (ea_cons (ed_indexL 8 rfl (ed_max (ns := iN (valsOf rows)) (ER.cast (ED.r (ed_name 8 rfl)) (iN_map _).symm) m3 m2 rfl T.bMax) rfl (flat_nats _) (idx_nat m1)) ea_nil))) (shp_two _ _).shaped (shp_two _ _).shaped).et (by show (!PyData.eqv (.tuple [nD _, nD _]) (.tuple [nD _, nD _])) = false; rw [eqv_self (shp_two _ _)]; rfl)) fun _ =>
      ew_or1 (ET.cast (ec_neD (room_u64 hr) (ed_name 10 rfl) (e2 := .tuple [nD ((valsOf rows).sum / Nat.gcd (valsOf rows).sum rows.length), nD (rows.length / Nat.gcd (valsOf rows).sum rows.length)]) ?A (shp_two _ _).shaped (shp_two _ _).shaped).et (by rw [eqv_self (shp_two _ _)]; rfl)))) (fun z => by cases z) (fun _ => ws_nil ?_))
    · exact ed_tup (ea_cons (edC (ed_fdiv (ED.cast (ed_sum (ns := iN (valsOf rows)) (ER.cast (ED.r (ed_name 8 rfl)) (iN_map _).symm) rfl T.bSum) (congrArg PyData.int (sum_iN _))) (ed_name 11 rfl) ⟨by omega, by omega⟩) (congrArg PyData.int (Int.natCast_ediv _ _).symm)) (ea_cons (edC (ed_fdiv (ED.cast (ed_len (ED.lq (ed_name 8 rfl)) T.bLen) (congrArg (fun n : Nat => PyData.int (n : Int)) lv)) (ed_name 11 rfl) ⟨by omega, by omega⟩) (congrArg PyData.int (Int.natCast_ediv _ _).symm)) ea_nil))
    · exact (WS.nx next).wk
end
end Fs

set_option Elab.async false
set_option linter.all false
set_option maxRecDepth 100000
set_option maxHeartbeats 4000000
set_option pp.deepTerms false
set_option pp.maxSteps 400
/-! Firesseen: the law on one draw (k03): the watchers that are needed -/
namespace Fs
open PySem PySem.Spec L2 LamX

theorem eqvAll_oN : ∀ (a b : List (Option Nat)), PyData.eqvAll (a.map oN) (b.map oN) = decide (a = b)
  | [], [] => rfl
  | [], _ :: _ => rfl
  | _ :: _, [] => rfl
  | x :: a, y :: b => by
    show (PyData.eqv (oN x) (oN y) && PyData.eqvAll (a.map oN) (b.map oN)) = _
    rw [eqvAll_oN a b]
    have e : PyData.eqv (oN x) (oN y) = decide (x = y) := by
      cases x with
      | none => cases y <;> simp [oN, nD, PyData.eqv]
      | some x => cases y with
        | none => simp [oN, nD, PyData.eqv]
        | some y =>
          rw [Bool.eq_iff_iff]
          simp only [oN, nD, PyData.eqv, beq_iff_eq, decide_eq_true_eq, Option.some.injEq]
          exact Int.ofNat_inj
    rw [e, Bool.eq_iff_iff]
    simp
theorem eqv_oNl (a b : List (Option Nat)) : PyData.eqv (.list (a.map oN)) (.list (b.map oN)) = decide (a = b) := by
  rw [PyData.eqv]
  exact eqvAll_oN a b
theorem rep_false (n : Nat) : (List.replicate n [PyData.bool false]).flatten = (List.replicate n false).map PyData.bool := by
  induction n with
  | zero => rfl
  | succ n ih =>
    rw [List.replicate_succ, List.flatten_cons, ih, List.replicate_succ]
    rfl
theorem asleepL_cat {ws : List Wt} {i : Nat} : ((ws.map eW).take i ++ [eW (List.replicate (ws.getD i []).length false)]) ++ (ws.map eW).drop (i + 1) = (asleepL ws i).map eW := by
  unfold asleepL
  rw [List.map_append, List.map_append, List.map_take, List.map_drop]
  rfl
theorem shp_nD (l : List Nat) : Shp 1 (.tuple (l.map nD)) := Shp.tup fun d hd => by
  obtain ⟨o, _, rfl⟩ := List.mem_map.mp hd
  exact shp_int _
section
variable {e : En}
theorem needK (T : Top e) {f : Addr} {A0 : Around} {outer0 : List Env} {s0 : Shared} {H0 : Hp} {E0 : XK} {F : Hp} {ad : Addr} {Dn : Ends} {st : Dc} {g : Nt} {ws : List Wt} {s t : Nat}
    (hr : Room 11 (A0.deeper (PyProof.Rows.envOfC "_law_right" (defScope stLawRight) s0.heap.objs.size f (.ref (e.ct "_law_right").1)))) (hl : ws.length = g.h) (hw : ∀ w ∈ ws, 1 ≤ w.length ∧ w.length ≤ 4) (hs : s < g.h) (ht : t < g.h) (G : g.Ok)
    (next : WS (e.cxN NR "_law_right" stLawRight f A0 outer0 s0 H0 E0) (cfgM e.T ad F H0) [.m ad (eDc st), .d (eN g), .d (eWs ws), .d (nD s), .d (nD t), .un, .un, .un, .un, .un, .un, .un, .un, .un, .un, .un, .un, .un] ((defBody stLawRight).drop 14) Dn) :
    WS (e.cxN NR "_law_right" stLawRight f A0 outer0 s0 H0 E0) (cfgM e.T ad F H0) [.m ad (eDc st), .d (eN g), .d (eWs ws), .d (nD s), .d (nD t), .un, .un, .un, .d (.list ((delL g ws s t).map oN)), .un, .un, .un, .un, .un, .un, .un, .un, .un] ((defBody stLawRight).drop 11) Dn := by
  have nd : NR.Nodup := by decide +kernel
  have h9 := G.h9
  have W : GoodW (eN g) (eWs ws) g ws := ⟨rfl, G, rfl, hl, fun w h => ⟨(hw w h).1, by have := (hw w h).2; omega⟩⟩
  refine ws_cons (w_setL 12 (ds := []) nd (el_lst ea_nil) ?_)
  refine ws_cons (w_for .never rfl (ei_range1 (ed_ix (ED.tq (ed_name 1 rfl)) ed_int net0) (by constructor <;> omega) T.bRange) (fun i δ => ∃ a b, δ = [.m ad (eDc st), .d (eN g), .d (eWs ws), .d (nD s), .d (nD t), .un, .un, .un, .d (.list ((delL g ws s t).map oN)), .un, .un, .un, .l (((List.range i).filter (needP g ws s t)).map nD), a, b, .un, .un, .un] ∧ a = .un ∧ b = .un) ⟨_, _, rfl, rfl, rfl⟩ ?_ ?_)
  · rintro i y δ1 hy ⟨_, _, rfl, rfl, rfl⟩ Fp hFp
    obtain ⟨hi, rfl⟩ := rng_getN (n := g.h) (by rw [show (((g.h : Nat) : Int)).toNat = g.h by omega] at hy; exact hy)
    have hfl : ((List.range i).filter (needP g ws s t)).length ≤ 9 := by
      have := List.length_filter_le (needP g ws s t) (List.range i)
      rw [List.length_range] at this
      omega
    have hP : needP g ws s t i = (!decide (i ∈ [s, t]) && decide (delB g (asleepL ws i) s t ≠ delB g ws s t)) := by
      unfold needP
      rw [need_eq G hs hi hl hw]
    have hdl := del_eq G hs hw (t := t)
    have fin : ∀ l : List Nat, l = (List.range (i + 1)).filter (needP g ws s t) → ∀ x1 : Sd, Nx ((cfgM e.T ad F H0).pin Fp) [.m ad (eDc st), .d (eN g), .d (eWs ws), .d (nD s), .d (nD t), .un, .un, .un, .d (.list ((delL g ws s t).map oN)), .un, .un, .un, .l (l.map nD), .d (nD i), x1, .un, .un, .un] (fun σ H' => ∃ F' δ3, (∃ a b, δ3 = [.m ad (eDc st), .d (eN g), .d (eWs ws), .d (nD s), .d (nD t), .un, .un, .un, .d (.list ((delL g ws s t).map oN)), .un, .un, .un, .l (((List.range (i + 1)).filter (needP g ws s t)).map nD), a, b, .un, .un, .un] ∧ a = .un ∧ b = .un) ∧ Sta ((cfgM e.T ad F H0).pin Fp) F' H' σ δ3) := fun l hl2 x1 => by
      subst hl2
      exact (nx_next (t := i + 1) (I := fun i δ => ∃ a b, δ = [.m ad (eDc st), .d (eN g), .d (eWs ws), .d (nD s), .d (nD t), .un, .un, .un, .d (.list ((delL g ws s t).map oN)), .un, .un, .un, .l (((List.range i).filter (needP g ws s t)).map nD), a, b, .un, .un, .un] ∧ a = .un ∧ b = .un) ⟨_, _, rfl, rfl, rfl⟩).wk
    refine ⟨_, _, eg_name 13 nd, ?_⟩
    refine ws_one (w_if (k := !decide (i ∈ [s, t])) (EW.et (ET.castW (d := decide (i ≠ s) && decide (i ≠ t)) (ew_and (ET.cast (ec_ne (e1 := nD i) (e2 := nD s) (ed_name 13 rfl) (ed_name 3 rfl) rfl).et (by rw [eqF_n, decide_not])) fun _ => ew_and1 (ET.cast (ec_ne (e1 := nD i) (e2 := nD t) (ed_name 13 rfl) (ed_name 4 rfl) rfl).et (by rw [eqF_n, decide_not]))) ?_)) (fun hk => ?_) (fun hk => ws_nil ?_))
    · by_cases z1 : i = s <;> by_cases z2 : i = t <;> simp [z1, z2]
    · rw [hk, Bool.true_and] at hP
      obtain ⟨al, aok⟩ := asleepL_ok hl hw hi
      have hlm : (ws.map eW).length = ws.length := List.length_map _
      have hww : ws.getD i [] ∈ ws := by
        rw [List.getD_eq_getElem?_getD, List.getElem?_eq_getElem (show i < ws.length by omega)]
        exact List.getElem_mem _
      have hw1 := hw _ hww
      have hwl2 : ((ws.getD i []).map PyData.bool).length = (ws.getD i []).length := List.length_map _
      refine ws_cons (w_set 14 (d := .list ((delB g (asleepL ws i) s t).map oN)) nd (EL.ed (el_call (cal_delB T) pass0 (hr.mono (by decide)) (ea_cons (ed_name 1 rfl) (ea_cons (d := eWs (asleepL ws i)) (edC (ed_catT (ed_catT (ed_slT (ed_name 2 rfl) eo_none (eo_some (ed_name 13 rfl))) (ed_tup (ea_cons (ed_repN (n := (ws.getD i []).length) (ed_tup (ea_cons ed_bl ea_nil)) (edC (ed_len (ED.tq (ed_ix (ED.tq (ed_name 2 rfl)) (ed_name 13 rfl) (eW_at (by omega)))) T.bLen) (congrArg (fun n : Nat => PyData.int (n : Int)) hwl2)) (by simp) hw1.1 (by omega) (by decide)) ea_nil)) ?_) (ed_slT (ed_name 2 rfl) (eo_some (ed_add (ed_name 13 rfl) ed_int)) eo_none) ?_) ?_) (ea_cons (ed_name 3 rfl) (ea_cons (ed_name 4 rfl) ea_nil)))) ⟨g, asleepL ws i, s, t, G, al, aok, hs, ht, rfl, rfl⟩)) ?_)
      · rw [cut_to (by omega), List.length_take, szl]
        show _ + 1 ≤ _
        omega
      · rw [cut_to (by omega), show ((i : Nat) : Int) + 1 = ((i + 1 : Nat) : Int) by omega, cut_from (by omega), List.length_append, List.length_take, List.length_drop, szl]
        show _ + 1 + _ ≤ _
        omega
      · rw [cut_to (by omega), show ((i : Nat) : Int) + 1 = ((i + 1 : Nat) : Int) by omega, cut_from (by omega), rep_false]
        show PyData.tuple (((ws.map eW).take i ++ [eW (List.replicate (ws.getD i []).length false)]) ++ (ws.map eW).drop (i + 1)) = .tuple ((asleepL ws i).map eW)
        rw [asleepL_cat]
      · show WS _ _ [.m ad (eDc st), .d (eN g), .d (eWs ws), .d (nD s), .d (nD t), .un, .un, .un, .d (.list ((delL g ws s t).map oN)), .un, .un, .un, .l (((List.range i).filter (needP g ws s t)).map nD), .d (nD i), .d (.list ((delB g (asleepL ws i) s t).map oN)), .un, .un, .un] _ _
        refine ws_one (w_if (k := needP g ws s t i) (ET.cast (ec_neD (room_u64 hr) (ed_name 14 rfl) (ed_name 8 rfl) (shp_oNl _).shaped (shp_oNl _).shaped).et (by rw [eqv_oNl, hP, hdl, decide_not])) (fun hk2 => ?_) (fun hk2 => ws_nil ?_))
        · refine ws_one (w_append 12 rfl (ed_name 13 rfl) (by rw [List.length_map, szl]; omega) ?_)
          have e9 : ((List.range i).filter (needP g ws s t)).map nD ++ [nD i] = ((List.range i).filter (needP g ws s t) ++ [i]).map nD := by rw [List.map_append]; rfl
          rw [e9]
          exact fin _ (by rw [range_filter_succ, hk2]; rfl) _
        · exact fin _ (by rw [range_filter_succ, hk2]; simp) _
    · rw [hk, Bool.false_and] at hP
      exact fin _ (by rw [range_filter_succ, hP]; simp) _
  · rintro δ1 ⟨_, _, rfl, rfl, rfl⟩
    have e9 : (rngD 0 (((g.h : Nat) : Int)).toNat).length = g.h := by rw [rng_len]; omega
    rw [e9]
    show WS _ _ [.m ad (eDc st), .d (eN g), .d (eWs ws), .d (nD s), .d (nD t), .un, .un, .un, .d (.list ((delL g ws s t).map oN)), .un, .un, .un, .l (((List.range g.h).filter (needP g ws s t)).map nD), .un, .un, .un, .un, .un] _ _
    have hne : (.tuple ((needL g ws s t).map nD) : D) = .tuple (((List.range g.h).filter (needP g ws s t)).map nD) := rfl
    refine ws_cons (w_if (k := false) (EW.et (ew_or (k := false) (l := false) (ET.cast (ec_neD (room_u64 hr) (ed_callN (calN_needed T) passL (hr.mono (by decide)) (ea_cons (ed_name 1 rfl) (ea_cons (ed_name 2 rfl) (ea_cons (ed_name 3 rfl) ea_nil))) (ek_cons (ed_name 4 rfl) ek_nil) rfl rfl (two_good W hs ht)) (ed_tuple (er_name 12 rfl) T.bTuple) (shp_nD _).shaped (shp_nD _).shaped).et (by show (!PyData.eqv (.tuple ((needL g ws s t).map nD)) (.tuple (((List.range g.h).filter (needP g ws s t)).map nD))) = false; rw [← hne, eqv_self (shp_nD _)]; rfl)) fun _ => ew_or1 (ET.cast (et_not (et_val (ed_call (cal_areWatches T) pass0 (hr.mono (by decide)) (ea_cons (ed_name 1 rfl) (ea_cons (ed_name 2 rfl) ea_nil)) ⟨_, _, rfl, rfl⟩))) (by rw [areW_good hl W.ok]; rfl)))) (fun z => by cases z) (fun _ => ws_nil ?_))
    exact (WS.nx next).wk
end
end Fs

set_option Elab.async false
set_option linter.all false
set_option maxRecDepth 100000
set_option maxHeartbeats 4000000
set_option pp.deepTerms false
set_option pp.maxSteps 400
/-! Firesseen: the law on one draw (k03): its end -/
namespace Fs
open PySem PySem.Spec L2 LamX

def dropD (ws : List Wt) : List D := (ws.map eW).drop 1
def badW (ws : List Wt) : List D := [.none, .tuple [], .tuple (dropD ws), .tuple (dropD ws ++ [.tuple []]), .tuple (dropD ws ++ [.tuple [.int 1]]), .list (ws.map eW), .tuple (dropD ws ++ [.tuple (List.replicate 9 [PyData.bool true]).flatten])]
theorem last_no {h : Int} {l : List D} {x : D} (hx : isWatchD x = false) : areW h (.tuple (l ++ [x])) = false := by
  simp only [areW, List.all_append, List.all_cons, hx, Bool.false_and, Bool.and_false]
theorem badW_no {g : Nt} {ws : List Wt} (h1 : 1 ≤ g.h) (hl : ws.length = g.h) {d : D} (hd : d ∈ badW ws) : areW (g.h : Int) d = false := by
  unfold badW at hd
  simp only [List.mem_cons, List.not_mem_nil, or_false] at hd
  rcases hd with rfl | rfl | rfl | rfl | rfl | rfl | rfl
  · rfl
  · simp only [areW, List.length_nil]
    rw [decide_eq_false (by omega), Bool.false_and]
  · simp only [areW, dropD, List.length_drop, List.length_map]
    rw [decide_eq_false (by omega), Bool.false_and]
  · exact last_no rfl
  · exact last_no rfl
  · rfl
  · exact last_no rfl
theorem kW_net {d dw : D} {r : Res} (h : isNetD d = false) : kW d dw r = .exc "net" := by
  unfold kW
  rw [h]
  rfl
theorem kW_bad {d dw : D} {r : Res} (h : isNetD d = true) (hb : areW (hOf d) dw = false) : kW d dw r = .exc "watches" := by
  unfold kW
  rw [h, hb]
  rfl
theorem kI_bad {a b : Int} {d : D} {nm : Str} {r : Res} (h : inI a b d = false) : kI a b d nm r = .exc nm := by
  unfold kI
  rw [h]
  rfl
theorem in_h (h : Nat) : inI 0 ((h : Int) - 1) (nD h) = false := by
  simp only [inI, nD]
  rw [decide_eq_true (by omega), decide_eq_false (by omega)]
  rfl
theorem in_m (h : Int) : inI 0 (h - 1) (.int (-1)) = false := by
  simp only [inI]
  rw [decide_eq_false (by omega), Bool.false_and]
theorem exc_arr {d dw d1 d2 : D} {nm : Str} (h : kW d dw (kI 0 (hOf d - 1) d1 "source" (kI 0 1000000000000 d2 "start" (.d .none))) = .exc nm) (hf : fewD d = true) : rArrivals [d, dw, d1, d2] (.exc nm) :=
  ⟨d, dw, d1, d2, .d .none, rfl, hf, h.symm, fun g ws s t W e1 hs e2 ht => by
    exfalso
    have a1 := W.hd
    have a2 := W.hw
    subst a1 a2 e1 e2
    rw [kW_good (net_is W.G) (by rw [hOf_eN]; exact areW_good W.len W.ok), hOf_eN, kI_good (hill_in hs), kI_good (by simp only [inI, nD, Bool.and_eq_true, decide_eq_true_eq]; omega)] at h
    cases h⟩
theorem exc_del {d dw d1 d2 : D} {nm : Str} (h : kW d dw (kI 0 (hOf d - 1) d1 "source" (kI 0 (hOf d - 1) d2 "target" (.d .none))) = .exc nm) (hf : fewD d = true) : rDelays [d, dw, d1, d2] (.exc nm) :=
  ⟨d, dw, d1, d2, .d .none, rfl, hf, h.symm, fun g ws s t W e1 hs e2 ht => by
    exfalso
    have a1 := W.hd
    have a2 := W.hw
    subst a1 a2 e1 e2
    rw [kW_good (net_is W.G) (by rw [hOf_eN]; exact areW_good W.len W.ok), hOf_eN, kI_good (hill_in hs), kI_good (hill_in ht)] at h
    cases h⟩
theorem exc_two {out : Nt → List Wt → Nat → Nat → Res} {d dw d1 d2 : D} {nm : Str} (h : kW d dw (kI 0 (hOf d - 1) d1 "source" (kI 0 (hOf d - 1) d2 "target" (.d .none))) = .exc nm) (hf : fewD d = true) : rTwo out [d, dw, d1, d2] (.exc nm) :=
  ⟨d, dw, d1, d2, .d .none, rfl, hf, h.symm, fun g ws s t W e1 hs e2 ht => by
    exfalso
    have a1 := W.hd
    have a2 := W.hw
    subst a1 a2 e1 e2
    rw [kW_good (net_is W.G) (by rw [hOf_eN]; exact areW_good W.len W.ok), hOf_eN, kI_good (hill_in hs), kI_good (hill_in ht)] at h
    cases h⟩
def RT : List D → List D → Res → List D → Prop := fun _ _ r _ => r = .d (.bool true)
section
variable {e : En}
theorem tailK (T : Top e) {f : Addr} {A0 : Around} {outer0 : List Env} {s0 : Shared} {H0 : Hp} {E0 : XK} {F : Hp} {ad : Addr} {Q : VK} {st : Dc} {k : Nat} {g : Nt} {ws : List Wt} {s t : Nat}
    (hr : Room 11 (A0.deeper (PyProof.Rows.envOfC "_law_right" (defScope stLawRight) s0.heap.objs.size f (.ref (e.ct "_law_right").1)))) (hl : ws.length = g.h) (hw : ∀ w ∈ ws, 1 ≤ w.length ∧ w.length ≤ 4) (hs : s < g.h) (ht : t < g.h) (G : g.Ok) (ok : st.Ok k) (hk : k ≤ 1000) {xs0 ds0 : List D}
    (hq : RetM (cfgM e.T ad F H0) ad Q (RT xs0 ds0)) :
    WS (e.cxN NR "_law_right" stLawRight f A0 outer0 s0 H0 E0) (cfgM e.T ad F H0) [.m ad (eDc st), .d (eN g), .d (eWs ws), .d (nD s), .d (nD t), .un, .un, .un, .un, .un, .un, .un, .un, .un, .un, .un, .un, .un] ((defBody stLawRight).drop 14) { nx := fun _ _ => False, rt := Q } := by
  have nd : NR.Nodup := by decide +kernel
  have h1 := G.h1
  have h9 := G.h9
  have hw8 : ∀ w ∈ ws, 1 ≤ w.length ∧ w.length ≤ 8 := fun w h => ⟨(hw w h).1, by have := (hw w h).2; omega⟩
  have hlm : (ws.map eW).length = ws.length := List.length_map _
  have ed1 : ∀ (δ : List Sd), δ[2]? = some (.d (eWs ws)) → ∀ p1 p2 p3 p4 n, ED (e.cxN NR "_law_right" stLawRight f A0 outer0 s0 H0 E0) (cfgM e.T ad F H0) δ (.Subscript (.Name "watches" p1) (.Slice (some (.Constant (.int 1) n p2)) none none p3) p4) (.tuple (dropD ws)) := fun δ hδ p1 p2 p3 p4 n => edC (ed_slT (ed_name 2 hδ) (eo_some ed_int) eo_none) (congrArg PyData.tuple (cut_from (i := 1) (by omega)))
  have dl : (dropD ws).length ≤ 9 := by
    unfold dropD
    rw [List.length_drop, hlm]
    omega
  refine ws_cons (w_setM 15 nd (em_callM 0 (cal_pick T) pass0 (hr.mono (by decide)) rfl List.mem_cons_self (ema_cons (ED.mm (d := .list (badW ws)) (EL.ed ?_) (ema_nil ⟨_, rfl, ⟨st, k, badW ws, rfl, rfl, ok, by omega, by show 0 < 7; decide, by show 7 < _; decide⟩, ?_⟩)))))
  · refine el_lst (ds := badW ws) ?_
    refine ea_cons ed_non ?_
    refine ea_cons (ed_tup ea_nil) ?_
    refine ea_cons (ed1 _ rfl _ _ _ _ _) ?_
    refine ea_cons (ed_catT (ed1 _ rfl _ _ _ _ _) (ed_tup (ea_cons (ed_tup ea_nil) ea_nil)) (by rw [szl]; show _ + 1 ≤ _; omega)) ?_
    refine ea_cons (ed_catT (ed1 _ rfl _ _ _ _ _) (ed_tup (ea_cons (ed_tup (ea_cons ed_int ea_nil)) ea_nil)) (by rw [szl]; show _ + 1 ≤ _; omega)) ?_
    refine ea_cons (EL.ed (el_list (ED.tq (ed_name 2 rfl)) T.bList)) ?_
    refine ea_cons (ed_catT (ed1 _ rfl _ _ _ _ _) (ed_tup (ea_cons (ed_repT (k := 9) (ed_tup (ea_cons ed_bl ea_nil)) ed_int (by simp) (by decide) (by decide) (by decide)) ea_nil)) (by rw [szl]; show _ + 1 ≤ _; omega)) ea_nil
  rintro r xs' ⟨s1, s2, ts, d, h1', h2, rfl, h4, h5', rfl⟩
  injection h2 with h2 _
  injection h2 with h2
  subst h2
  have hb0 := badW_no h1 hl h5'
  have hb : areW (hOf (eN g)) d = false := hb0
  have gn := net_is G
  have gw : areW (hOf (eN g)) (eWs ws) = true := areW_good hl hw8
  refine ⟨d, rfl, ?_⟩
  show WS _ _ [.m ad (eDc s2), .d (eN g), .d (eWs ws), .d (nD s), .d (nD t), .un, .un, .un, .un, .un, .un, .un, .un, .un, .un, .d d, .un, .un] _ _
  refine ws_cons (w_set 16 (d := .list [.str "net", .str "watches", .str "source", .str "start", .str "source", .str "target", .str "watches", .str "target", .str "source"]) nd (EL.ed (el_lst ?_)) ?_)
  · skip
    refine ea_cons (ed_ref T hr rfl (cal_arrivals T) (by decide) (fun _ _ _ _ _ _ _ => ea_cons ed_non (ea_cons ed_non (ea_cons ed_non (ea_cons ed_non ea_nil)))) (exc_arr (kW_net rfl) rfl) (fun _ _ _ _ _ _ _ => rfl) (lamS_by (by rfl)) rfl) ?_
    refine ea_cons (ed_ref T hr rfl (cal_arrivals T) (by decide) (fun _ _ _ _ _ _ _ => ea_cons (ed_name 1 rfl) (ea_cons (ed_name 15 rfl) (ea_cons ed_non (ea_cons ed_non ea_nil)))) (exc_arr (kW_bad gn hb) (few_net G)) (fun _ _ _ _ _ _ _ => rfl) (lamS_by (by rfl)) rfl) ?_
    refine ea_cons (ed_ref T hr rfl (cal_arrivals T) (by decide) (fun _ _ _ _ _ _ _ => ea_cons (ed_name 1 rfl) (ea_cons (ed_name 2 rfl) (ea_cons (ed_ix (ED.tq (ed_name 1 rfl)) ed_int net0) (ea_cons ed_non ea_nil)))) (exc_arr (by rw [kW_good gn gw, hOf_eN]; exact kI_bad (in_h g.h)) (few_net G)) (fun _ _ _ _ _ _ _ => rfl) (lamS_by (by rfl)) rfl) ?_
    refine ea_cons (ed_ref T hr rfl (cal_arrivals T) (by decide) (fun _ _ _ _ _ _ _ => ea_cons (ed_name 1 rfl) (ea_cons (ed_name 2 rfl) (ea_cons (ed_name 3 rfl) (ea_cons (ed_neg ed_int) ea_nil)))) (exc_arr (by rw [kW_good gn gw, hOf_eN, kI_good (hill_in hs)]; exact kI_bad rfl) (few_net G)) (fun _ _ _ _ _ _ _ => rfl) (lamS_by (by rfl)) rfl) ?_
    refine ea_cons (ed_ref T hr rfl (cal_delays T) (by decide) (fun _ _ _ _ _ _ _ => ea_cons (ed_name 1 rfl) (ea_cons (ed_name 2 rfl) (ea_cons (ed_neg ed_int) (ea_cons ed_non ea_nil)))) (exc_del (by rw [kW_good gn gw, hOf_eN]; exact kI_bad (in_m (g.h : Int))) (few_net G)) (fun _ _ _ _ _ _ _ => rfl) (lamS_by (by rfl)) rfl) ?_
    refine ea_cons (ed_ref T hr rfl (cal_delays T) (by decide) (fun _ _ _ _ _ _ _ => ea_cons (ed_name 1 rfl) (ea_cons (ed_name 2 rfl) (ea_cons (ed_name 3 rfl) (ea_cons ed_bl ea_nil)))) (exc_del (by rw [kW_good gn gw, hOf_eN, kI_good (hill_in hs)]; exact kI_bad rfl) (few_net G)) (fun _ _ _ _ _ _ _ => rfl) (lamS_by (by rfl)) rfl) ?_
    refine ea_cons (ed_ref T hr rfl (cal_worst T) (by decide) (fun _ _ _ _ _ _ _ => ea_cons (ed_name 1 rfl) (ea_cons (ed_name 15 rfl) (ea_cons ed_int (ea_cons ed_int ea_nil)))) (exc_two (kW_bad gn hb) (few_net G)) (fun _ _ _ _ _ _ _ => rfl) (lamS_by (by rfl)) rfl) ?_
    refine ea_cons (ed_ref T hr rfl (cal_mean T) (by decide) (fun _ _ _ _ _ _ _ => ea_cons (ed_name 1 rfl) (ea_cons (ed_name 2 rfl) (ea_cons (ed_name 3 rfl) (ea_cons ed_non ea_nil)))) (exc_two (by rw [kW_good gn gw, hOf_eN, kI_good (hill_in hs)]; exact kI_bad rfl) (few_net G)) (fun _ _ _ _ _ _ _ => rfl) (lamS_by (by rfl)) rfl) ?_
    refine ea_cons (ed_ref T hr rfl (cal_needed T) (by decide) (fun _ _ _ _ _ _ _ => ea_cons (ed_name 1 rfl) (ea_cons (ed_name 2 rfl) (ea_cons ed_non (ea_cons ed_non ea_nil)))) (exc_two (by rw [kW_good gn gw, hOf_eN]; exact kI_bad rfl) (few_net G)) (fun _ _ _ _ _ _ _ => rfl) (lamS_by (by rfl)) rfl) ?_
    exact ea_nil
  refine ws_cons (w_set 7 (d := .list [.str "net", .str "watches", .str "source", .str "start", .str "source", .str "target", .str "watches", .str "target", .str "source"]) nd (EL.ed (el_lst (ea_cons ed_str (ea_cons ed_str (ea_cons ed_str (ea_cons ed_str (ea_cons ed_str (ea_cons ed_str (ea_cons ed_str (ea_cons ed_str (ea_cons ed_str ea_nil))))))))))) ?_)
  show WS _ _ [.m ad (eDc s2), .d (eN g), .d (eWs ws), .d (nD s), .d (nD t), .un, .un, .d (.list [.str "net", .str "watches", .str "source", .str "start", .str "source", .str "target", .str "watches", .str "target", .str "source"]), .un, .un, .un, .un, .un, .un, .un, .d d, .d (.list [.str "net", .str "watches", .str "source", .str "start", .str "source", .str "target", .str "watches", .str "target", .str "source"]), .un] _ _
  refine ws_one (w_retM 0 (ED.mm (d := .bool true) ?_ ⟨_, rfl, rfl⟩) hq)
  refine ed_and (k := true) (edC (ec_eqD (room_u64 hr) (ed_name 16 rfl) (ed_name 7 rfl) (by decide +kernel) (by decide +kernel)).ed (congrArg PyData.bool (PySem.SeqAt.eqv_refl _ (by decide +kernel)))) fun _ => ?_
  refine ed_and (k := true) (edC (ed_call (cal_isWatch T) pass0 (hr.mono (by decide)) (ea_cons (ed_tup (ea_cons ed_bl (ea_cons ed_bl ea_nil))) ea_nil) ⟨_, rfl, rfl⟩) rfl) fun _ => ?_
  refine ed_and (k := true) (edC (ed_not (ed_call (cal_isWatch T) pass0 (hr.mono (by decide)) (ea_cons (ed_tup (ea_cons ed_int ea_nil)) ea_nil) ⟨_, rfl, rfl⟩)) rfl) fun _ => ?_
  exact ed_one (edC (ed_not (ed_call (cal_areWatches T) pass0 (hr.mono (by decide)) (ea_cons (ed_name 1 rfl) (ea_cons (ed_name 15 rfl) ea_nil)) ⟨_, _, rfl, rfl⟩)) (by rw [hb0]; rfl))
/-! the whole of it -/
def preRight (xs ds : List D) : Prop := ∃ st : Dc, xs = eDc st ∧ ds = [] ∧ st.Ok 0
theorem cal_right (T : Top e) : e.CalM CX0 12 "_law_right" ["dice"] preRight RT := by
  refine T.lawRight.calM (okM (N := NR) ⟨rfl, rfl, rfl, by decide +kernel, rfl, by decide +kernel, by decide +kernel⟩ (by rintro xs ds ⟨s, _, rfl, _⟩; rfl) ?_) fun _ _ _ _ _ _ us hl => match us, hl with | [_], _ => rfl
  rintro f A outer s H E F a xs ds Q hr ⟨st, rfl, rfl, ok⟩ hMx hq
  refine headK T hr ok hMx fun g ws s1 t1 n st2 hl hw hs ht G hn ok2 => ?_
  refine midK T hr hl hw hs ht G hn ?_
  refine worstK T hr hl hw hs ht G ?_
  refine needK T hr hl hw hs ht G ?_
  exact tailK T hr hl hw hs ht G ok2 (by omega) hq
end
end Fs

set_option Elab.async false
set_option linter.all false
set_option maxRecDepth 100000
set_option maxHeartbeats 4000000
set_option pp.deepTerms false
set_option pp.maxSteps 400
/-! Firesseen: the law. -/
namespace Fs
open PySem PySem.Spec L2
def spLaw (K : PySem.W.Frag) (T : List (Addr × Option Str)) : Sp := fun vs H Q _ => ∃ (F : Hp) (a : Addr) (ns : List Int), vs = [V.ref a] ∧ Tb T H ∧ Fz F H ∧ SqL K H a (ns.map V.int) ∧ ns.length < 1000000 ∧ ∀ v H', v = .bl true → Q v H'
section
variable {e : En}
abbrev NLaw : List Str := ["script", "spot"]
theorem el_dice {X : Cx} {c : Cfg} {δ : List Sd} {p pos : Pos} {ns : List Int} {a : Addr} {i : Nat} (C : Cal X.prog X.w X.K X.mg X.base CX0 1 "_law_dice" ["script", "spot"] (spDice X.K c.T)) (hr : Room 1 X.A) (hS : SqL X.K c.H0 a (ns.map V.int)) (hq : a ∉ c.Mx) (hi : i < 1000) (hn : ns.length < 1000000)
    {ea eb : Expr} (h1 : EV X c δ ea (.ref a)) (h2 : ED X c δ eb (.int (i : Nat))) (hg : Gl X "_law_dice" := by rfl) (he1 : starEach [ea, eb] X.env = (false, eval ea X.env) :: starEach [eb] X.env := by rfl) (he2 : starEach [eb] X.env = (false, eval eb X.env) :: starEach [] X.env := by rfl) (hpl : (backTo pos (starEach [eb] X.env)).any (·.1) = false := by rfl) :
    EL X c δ (.Call (.Name "_law_dice" p) [ea, eb] [] pos) (eDc (diceOf ns i)) := fun F H σ Q S q => by
  obtain ⟨f, fd, g1, g2, g3, g4⟩ := C.ex
  refine uE (pe_call g4 hr hg g1 g2 g3 .nil pass0 (pa_cons (sE ea) (pa_cons (sE eb) pa_nil he2) he1) (by decide) he1 hpl) ?_
  refine h1 F H σ _ S fun F1 H1 s1 => ?_
  refine h2 F1 H1 σ _ (S.step s1) fun v F2 H2 s2 d2 => ?_
  rw [dv_int d2]
  have s := s1.trans s2
  have hS2 : SqL X.K H2 a (ns.map V.int) := sq_keep hS (S.base.trans s.wide) hq
  refine ⟨F2, a, ns, i, rfl, s.tb, s.fz, hS2, hi, hn, fun v F3 H3 s3 p3 => ?_⟩
  obtain ⟨r, us, e1, e2, e3, e4, e5⟩ := p3
  subst e1
  exact q r us F3 H3 (s.trans s3) (s.dom r e2) e3 e4 e5
theorem ok_law (T : Top e) {f : Addr} {fd : FuncData} (h1 : FunP e.K "law" stLaw f fd) : FnOk e.P e.w e.K e.mg e.base CX0 13 f fd ["script"] (spLaw e.K e.T) := by
  obtain ⟨oc, od, dV, kV, doc, pm, an, cdv, ct, osl, rfl, lk, hcd, _, _⟩ := h1.ex
  refine fn_of (CX := CX0) (N := NLaw) (ps := ["script"]) lk hcd ⟨rfl, rfl, rfl, by decide +kernel, rfl, by decide +kernel, by decide +kernel⟩ (fun vs H Q E ⟨_, _, _, e1, _⟩ => by rw [e1]; rfl) fun A outer s H vs Q E hr hsp => ?_
  obtain ⟨F, a, ns, rfl, hT, hF, hS, hns, hq⟩ := hsp
  have nd : NLaw.Nodup := by decide +kernel
  refine ⟨_, PSs.nox (sSs _), ?_⟩
  have S0 : Sta (cfg0 e.T F H) F H (L2.start NLaw [V.ref a]) [.v (.ref a), .un] := by
    refine ⟨Stp.refl hF hT, Sub.refl F, rfl, fun i y e => ?_, fun i j x y p hij e1 e2 o1 o2 s1 => ?_⟩
    · match i, e with
      | 0, e => cases e; rfl
      | 1, e => cases e; trivial
      | n + 2, e => simp at e
    · match i, e1 with
      | 0, e => cases e; cases o1
      | 1, e => cases e; cases o1
      | n + 2, e => simp at e
  refine (show WS ((cxOf CX0 e.P e.w e.K e.mg e.base NLaw "law" (defScope stLaw) f cdv A outer s H E).nox) (cfg0 e.T F H) [.v (.ref a), .un] (defBody stLaw) (fin Q) from ?_) F H _ S0
  have hS' : SqL e.K (cfg0 e.T F H).H0 a (ns.map V.int) := hS
  have nm : a ∉ (cfg0 e.T F H).Mx := fun z => by cases z
  have C := cal_right T
  have CD := cal_dice T
  refine ws_cons (w_for .never rfl (ei_range1 (ed_max2 ed_int (ed_min2 ed_int (ed_lenS hS' nm (ev_name 0 rfl) T.bLen) rfl T.bMin) rfl T.bMax) ?_ T.bRange) (fun i δ => ∃ b, δ = [.v (.ref a), b] ∧ b = .un) ⟨_, rfl, rfl⟩ ?_ ?_)
  · constructor <;> omega
  · rintro i y δ1 hy ⟨_, rfl, rfl⟩ Fp hFp
    obtain ⟨hi, rfl⟩ := rngD_get hy
    refine ⟨_, _, eg_name 1 nd, ?_⟩
    refine ws_one (w_if (k := false) (et_not (k := true) (et_val (ed_callMF C pass0 hr ?_ ⟨diceOf ns i, rfl, rfl, dice_ok ns i⟩ (fun r xs' z => z)))) (fun z => by cases z) (fun _ => ws_nil ?_))
    · refine el_dice (X := (cxOf CX0 e.P e.w e.K e.mg e.base NLaw "law" (defScope stLaw) f cdv A outer s H E).nox) (c := (cfg0 e.T F H).pin Fp) (ns := ns) (a := a) (i := i) CD ?_ hS' nm ?_ hns ?_ ?_
      · exact hr.mono (by decide)
      · omega
      · exact ev_name 0 rfl
      · exact edC (ed_name 1 rfl) (by rw [Int.zero_add])
    · exact (nx_next (t := i) (I := fun i δ => ∃ b, δ = [.v (.ref a), b] ∧ b = .un) ⟨_, rfl, rfl⟩).wk
  · rintro δ1 ⟨_, rfl, rfl⟩
    refine ws_one (w_ret ed_bl fun v F' H' s p => ?_)
    cases p
    exact hq _ _ rfl
end
end Fs

set_option Elab.async false
set_option linter.all false
set_option maxRecDepth 100000
set_option maxHeartbeats 0
/-! Firesseen: the end: what the top leaves; the statement. -/
namespace Fs
open PySem PySem.Spec PyProof.Rows L2
def endFa0 : List He.Fa := [.glo "is_integer", .glo "need_integer", .glo "is_line", .glo "is_net", .glo "need_net", .glo "need_hill", .glo "beside_of", .glo "is_watch", .glo "are_watches", .glo "need_watches", .glo "turn_of", .glo "arrivals_of", .glo "awake_from", .glo "arrivals", .glo "delays", .glo "worst_delay", .glo "mean_delay", .glo "needed_watchers", .glo "longer_some", .glo "_law_dice", .glo "_law_roll", .glo "_law_pick", .glo "_law_refused", .glo "_law_gcd", .glo "_law_net", .glo "_law_lit", .glo "_law_watches", .glo "_law_burning", .glo "_law_delays", .glo "_law_right"]
def endFa1 : List He.Fa := [.glo "law", .free "isinstance", .free "int", .free "bool", .free "tuple", .free "list", .free "len", .free "range", .free "all", .free "any", .free "max", .free "min", .free "sum", .free "sorted", .free "abs", .free "super", .free "ValueError", .int "MOST_HILLS" 9, .int "MOST_ROW" 8, .int "MOST_STEP" 1000000000000]
def endFa : List He.Fa := endFa0 ++ endFa1
def endFn0 : List He.DefD := [dOf "is_integer" stIsInteger, dOf "need_integer" stNeedInteger, dOf "is_line" stIsLine, dOf "is_net" stIsNet, dOf "need_net" stNeedNet, dOf "need_hill" stNeedHill, dOf "beside_of" stBesideOf, dOf "is_watch" stIsWatch, dOf "are_watches" stAreWatches, dOf "need_watches" stNeedWatches, dOf "turn_of" stTurnOf, dOf "arrivals_of" stArrivalsOf, dOf "awake_from" stAwakeFrom, dOf "arrivals" stArrivals, dOf "delays" stDelays, dOf "worst_delay" stWorstDelay, dOf "mean_delay" stMeanDelay, dOf "needed_watchers" stNeededWatchers, dOf "longer_some" stLongerSome, dOf "_law_dice" stLawDice, dOf "_law_roll" stLawRoll, dOf "_law_pick" stLawPick, dOf "_law_refused" stLawRefused, dOf "_law_gcd" stLawGcd, dOf "_law_net" stLawNet, dOf "_law_lit" stLawLit, dOf "_law_watches" stLawWatches, dOf "_law_burning" stLawBurning, dOf "_law_delays" stLawDelays, dOf "_law_right" stLawRight]
def endFn1 : List He.DefD := [dOf "law" stLaw]
def endFn : List He.DefD := endFn0 ++ endFn1
def endTf : List He.Defn := [("is_line", none), ("is_net", none), ("is_watch", none), ("are_watches", none), ("_law_right", none)]
def endDif (K : PySem.W.Frag) : Bool := !((He.cT K ("is_line", none)).2 == (He.cT K ("_law_right", none)).2) && (!((He.cT K ("is_net", none)).2 == (He.cT K ("_law_right", none)).2) && (!((He.cT K ("is_watch", none)).2 == (He.cT K ("_law_right", none)).2) && (!((He.cT K ("are_watches", none)).2 == (He.cT K ("_law_right", none)).2))))
def endEx (K : PySem.W.Frag) : Bool := badB pgm K && endDif K
def endNames0 : List PySem.Str := ["BadArgument", "MOST_HILLS", "MOST_ROW", "MOST_STEP", "is_integer", "need_integer", "is_line", "is_net", "need_net", "need_hill", "beside_of", "is_watch", "are_watches", "need_watches", "turn_of", "arrivals_of", "awake_from", "arrivals", "delays", "worst_delay", "mean_delay", "needed_watchers", "longer_some", "_law_dice", "_law_roll", "_law_pick", "_law_refused", "_law_gcd", "_law_net", "_law_lit"]
def endNames1 : List PySem.Str := ["_law_watches", "_law_burning", "_law_delays", "_law_right"]
def endNames : List PySem.Str := endNames0 ++ endNames1
abbrev endR : PySem.W.OpenRow := PySem.W.OpenLaw.row PySem.Challenge.rw_firesseen_k03_whole_watches
abbrev endHk : PySem.W.Hook := hookF 6 endFa endFn endTf endEx
def endOb (s : PySem.W.SharedT) : AlF := obsF 6 endFa endFn endTf endEx (HandSHeadRun.getT s)
theorem endOb_eq (s : PySem.W.SharedT) : endOb s = endHk.obs s.abs := obsF_eq (HandSHeadRun.getT_eq s)
abbrev endQ : Program := PySem.W.view endR.prog [38]
theorem end_run (w : World) : HandSHeadRun.RunEq endR endQ endHk endOb 6000 endNames w := by
  intro os
  kernel_rfl
def endEn (w : World) (K : PySem.W.Frag) (mg : Str → Option Value) (base : Heap) : En := { P := PySem.Challenge.rw_firesseen_k03_whole_watches.prog, w := w, K := K, mg := mg, base := base, T := [((He.cT K ("is_line", none)).2, none), ((He.cT K ("is_net", none)).2, none), ((He.cT K ("is_watch", none)).2, none), ((He.cT K ("are_watches", none)).2, none), ((He.cT K ("_law_right", none)).2, some (("_law_right" ++ ".<locals>.") ++ "<lambda>"))], CB := baC K, fI := baI K, ct := fun x => He.cT K (x, none) }
section
variable {w : World} {K : PySem.W.Frag} {h base : Heap} {mg : Str → Option Value}
theorem end_top (X : K.In h) (G : h.Ns mainGlobals mg) (c : SaysF endFa endFn endTf endEx h K) (tb : ∀ p ∈ endTf.map (He.cT K), LamX.TabB base mg p.1 p.2) : Top (endEn w K mg base) := by
  obtain ⟨cb, cd⟩ := He.ba c.more
  unfold endDif at cd
  obtain ⟨d0, cd⟩ := He.ba cd
  have n0 : (He.cT K ("is_line", none)).2 ≠ (He.cT K ("_law_right", none)).2 := fun z => by
    rw [z] at d0
    simp at d0
  obtain ⟨d1, cd⟩ := He.ba cd
  have n1 : (He.cT K ("is_net", none)).2 ≠ (He.cT K ("_law_right", none)).2 := fun z => by
    rw [z] at d1
    simp at d1
  obtain ⟨d2, cd⟩ := He.ba cd
  have n2 : (He.cT K ("is_watch", none)).2 ≠ (He.cT K ("_law_right", none)).2 := fun z => by
    rw [z] at d2
    simp at d2
  have d3 := cd
  have n3 : (He.cT K ("are_watches", none)).2 ≠ (He.cT K ("_law_right", none)).2 := fun z => by
    rw [z] at d3
    simp at d3
  exact {
    isInteger := fx_of X G c rfl rfl (fun _ => rfl) 0 0
    needInteger := fx_of X G c rfl rfl (fun _ => rfl) 1 1
    isLine := fx_of X G c rfl rfl (fun _ => rfl) 2 2
    isNet := fx_of X G c rfl rfl (fun _ => rfl) 3 3
    needNet := fx_of X G c rfl rfl (fun _ => rfl) 4 4
    needHill := fx_of X G c rfl rfl (fun _ => rfl) 5 5
    besideOf := fx_of X G c rfl rfl (fun _ => rfl) 6 6
    isWatch := fx_of X G c rfl rfl (fun _ => rfl) 7 7
    areWatches := fx_of X G c rfl rfl (fun _ => rfl) 8 8
    needWatches := fx_of X G c rfl rfl (fun _ => rfl) 9 9
    turnOf := fx_of X G c rfl rfl (fun _ => rfl) 10 10
    arrivalsOf := fx_of X G c rfl rfl (fun _ => rfl) 11 11
    awakeFrom := fx_of X G c rfl rfl (fun _ => rfl) 12 12
    arrivals := fx_of X G c rfl rfl (fun _ => rfl) 13 13
    delays := fx_of X G c rfl rfl (fun _ => rfl) 14 14
    worstDelay := fx_of X G c rfl rfl (fun _ => rfl) 15 15
    meanDelay := fx_of X G c rfl rfl (fun _ => rfl) 16 16
    neededWatchers := fx_of X G c rfl rfl (fun _ => rfl) 17 17
    longerSome := fx_of X G c rfl rfl (fun _ => rfl) 18 18
    lawDice := fx_of X G c rfl rfl (fun _ => rfl) 19 19
    lawRoll := fx_of X G c rfl rfl (fun _ => rfl) 20 20
    lawPick := fx_of X G c rfl rfl (fun _ => rfl) 21 21
    lawRefused := fx_of X G c rfl rfl (fun _ => rfl) 22 22
    lawGcd := fx_of X G c rfl rfl (fun _ => rfl) 23 23
    lawNet := fx_of X G c rfl rfl (fun _ => rfl) 24 24
    lawLit := fx_of X G c rfl rfl (fun _ => rfl) 25 25
    lawWatches := fx_of X G c rfl rfl (fun _ => rfl) 26 26
    lawBurning := fx_of X G c rfl rfl (fun _ => rfl) 27 27
    lawDelays := fx_of X G c rfl rfl (fun _ => rfl) 28 28
    lawRight := fx_of X G c rfl rfl (fun _ => rfl) 29 29
    law := fx_of X G c rfl rfl (fun _ => rfl) 30 30
    hP := rfl
    bad := bad_ok (p := pgm) X G c.ini cb
    bIsinstance := He.free_ok X G (c.d.fact 31 (f := .free "isinstance") rfl)
    bInt := He.free_ok X G (c.d.fact 32 (f := .free "int") rfl)
    bBool := He.free_ok X G (c.d.fact 33 (f := .free "bool") rfl)
    bTuple := He.free_ok X G (c.d.fact 34 (f := .free "tuple") rfl)
    bList := He.free_ok X G (c.d.fact 35 (f := .free "list") rfl)
    bLen := He.free_ok X G (c.d.fact 36 (f := .free "len") rfl)
    bRange := He.free_ok X G (c.d.fact 37 (f := .free "range") rfl)
    bAll := He.free_ok X G (c.d.fact 38 (f := .free "all") rfl)
    bAny := He.free_ok X G (c.d.fact 39 (f := .free "any") rfl)
    bMax := He.free_ok X G (c.d.fact 40 (f := .free "max") rfl)
    bMin := He.free_ok X G (c.d.fact 41 (f := .free "min") rfl)
    bSum := He.free_ok X G (c.d.fact 42 (f := .free "sum") rfl)
    bSorted := He.free_ok X G (c.d.fact 43 (f := .free "sorted") rfl)
    bAbs := He.free_ok X G (c.d.fact 44 (f := .free "abs") rfl)
    bSuper := He.free_ok X G (c.d.fact 45 (f := .free "super") rfl)
    bValueError := He.free_ok X G (c.d.fact 46 (f := .free "ValueError") rfl)
    nMostHills := He.int_ok X G (c.d.fact 47 (f := .int "MOST_HILLS" 9) rfl)
    nMostRow := He.int_ok X G (c.d.fact 48 (f := .int "MOST_ROW" 8) rfl)
    nMostStep := He.int_ok X G (c.d.fact 49 (f := .int "MOST_STEP" 1000000000000) rfl)
    tabs := fun x hx => by
      have key : ∀ y : Str, (y, none) ∈ endTf → GxR.TabB base mg (He.cT K (y, none)).1 (He.cT K (y, none)).2 := fun y hy => by
        have z := tb _ (List.mem_map_of_mem hy)
        exact ⟨z.code, z.bm, z.gP⟩
      refine key x ?_
      simp only [List.mem_cons, List.not_mem_nil, or_false] at hx
      unfold endTf
      simp only [List.mem_cons, List.not_mem_nil, or_false, Prod.mk.injEq, and_true]
      exact hx
    gens := fun x hx => by
      simp only [List.mem_cons, List.not_mem_nil, or_false] at hx
      rcases hx with rfl | rfl | rfl | rfl
      · refine ⟨by simp [endEn], fun q z => ?_⟩
        simp only [endEn, List.mem_cons, List.not_mem_nil, or_false, Prod.mk.injEq, reduceCtorEq, and_false, false_or, n0, n1, n2, n3, Ne.symm n0, Ne.symm n1, Ne.symm n2, Ne.symm n3, false_and] at z
      · refine ⟨by simp [endEn], fun q z => ?_⟩
        simp only [endEn, List.mem_cons, List.not_mem_nil, or_false, Prod.mk.injEq, reduceCtorEq, and_false, false_or, n0, n1, n2, n3, Ne.symm n0, Ne.symm n1, Ne.symm n2, Ne.symm n3, false_and] at z
      · refine ⟨by simp [endEn], fun q z => ?_⟩
        simp only [endEn, List.mem_cons, List.not_mem_nil, or_false, Prod.mk.injEq, reduceCtorEq, and_false, false_or, n0, n1, n2, n3, Ne.symm n0, Ne.symm n1, Ne.symm n2, Ne.symm n3, false_and] at z
      · refine ⟨by simp [endEn], fun q z => ?_⟩
        simp only [endEn, List.mem_cons, List.not_mem_nil, or_false, Prod.mk.injEq, reduceCtorEq, and_false, false_or, n0, n1, n2, n3, Ne.symm n0, Ne.symm n1, Ne.symm n2, Ne.symm n3, false_and] at z
    lams := fun x hx => by
      simp only [List.mem_cons, List.not_mem_nil, or_false] at hx
      subst hx
      · refine ⟨by simp [endEn], fun o z => ?_⟩
        simp only [endEn, List.mem_cons, List.not_mem_nil, or_false, Prod.mk.injEq, reduceCtorEq, and_false, false_or, n0, n1, n2, n3, Ne.symm n0, Ne.symm n1, Ne.symm n2, Ne.symm n3, false_and] at z
        exact z.2 }
theorem end_tb {H : Hp} (hT : ∀ p ∈ endTf.map (He.cT K), H p.2 = some (.tbl #[])) : Tb (endEn w K mg base).T H := tb_of fun p hp => by
  simp only [endEn, List.mem_cons, List.not_mem_nil, or_false] at hp
  rcases hp with rfl | rfl | rfl | rfl | rfl
  · exact hT (He.cT K ("is_line", none)) (List.mem_map_of_mem (by simp [endTf]))
  · exact hT (He.cT K ("is_net", none)) (List.mem_map_of_mem (by simp [endTf]))
  · exact hT (He.cT K ("is_watch", none)) (List.mem_map_of_mem (by simp [endTf]))
  · exact hT (He.cT K ("are_watches", none)) (List.mem_map_of_mem (by simp [endTf]))
  · exact hT (He.cT K ("_law_right", none)) (List.mem_map_of_mem (by simp [endTf]))
theorem end_law {fl : Addr} (X : K.In h) (G : h.Ns mainGlobals mg) (c : SaysF endFa endFn endTf endEx h K) (hmg : mg "law" = some (.ref fl)) : LamX.LawAtS PySem.Challenge.rw_firesseen_k03_whole_watches w K CX0 13 63 "script" mg fl h := by
  obtain ⟨fd, F⟩ := c.d.def_ 30 (d := dOf "law" stLaw) rfl
  have e := hmg.symm.trans (He.glo_ok X G (c.d.fact 30 (f := .glo "law") rfl))
  have e2 : fl = He.fAd K ("law", none) := by
    have := Option.some.inj e
    exact Value.ref.inj this
  subst e2
  have b := FunD.bindsA (ps := ["script"]) F fun _ _ _ _ _ _ us hl => match us, hl with | [_], _ => rfl
  refine ⟨fd, endTf.map (He.cT K), spLaw K (endEn w K mg h).T, fun p hp => ?_, fun p hp => ?_, fun p hp => ?_, fun s u => b s [u] rfl, fun H a ns hl _ hT hS => ?_, fun base hK hb tb => ?_⟩
  · obtain ⟨d, hd, rfl⟩ := List.mem_map.mp hp
    exact c.empty d hd
  · obtain ⟨d, hd, rfl⟩ := List.mem_map.mp hp
    exact c.out d hd
  · obtain ⟨d, hd, rfl⟩ := List.mem_map.mp hp
    exact PySem.W.codeHd_of_K X (c.hd d hd)
  · exact ⟨fun _ => none, a, ns, rfl, end_tb (base := h) hT, (fun _ _ z => by cases z), hS, (by omega), fun v H' e => e⟩
  · have T : Top (endEn w K mg base) := end_top X G c tb
    exact ok_law T F
end
end Fs
open PySem PySem.W PySem.Calls PyProof.Rows
set_option maxRecDepth 100000 in
set_option maxHeartbeats 0 in
theorem PySem.Challenge.cw_firesseen_k03_whole_watches_holds : PySem.Challenge.rw_firesseen_k03_whole_watches.Holds := by
  w_on; o_law
  refine HandSHeadRun.head_any (r := Fs.endR) (q := Fs.endQ) (H := Fs.endHk) (ob := Fs.endOb) (M := 6000) (loose := Fs.endNames) (d := HandSHeadRun.topDef Fs.endR.prog 38) (kwd := []) Fs.endOb_eq
    (by kernel_rfl) (fun s => by kernel_rfl) Fs.end_run (by kernel_rfl) (by kernel_rfl) (by kernel_rfl) (by rfl) (by first | assumption | decide +kernel) (by decide +kernel) ⟨rfl, rfl, rfl, rfl, rfl, by decide +kernel⟩ ?hw ?hc
  case hw => w_witness2
  case hc =>
    refine LamX.walk_ofTsE (l := PySem.Challenge.rw_firesseen_k03_whole_watches) (n := 63) (k := 13) (x := "script") (CX := fun _ => L2.CX0) rfl (by decide) (by kernel_rfl) ⟨rfl, by decide, by decide⟩ ?F (fun _ _ _ _ _ z => z)
    intro w mg fl h Y G hmg0
    obtain ⟨K, KX, c⟩ := Y
    have hmg : mg ("law" : PySem.Str) = some (.ref fl) := by
      have e : (HandSHeadRun.topDef Fs.endR.prog 38).name = ("law" : PySem.Str) := by kernel_rfl
      rw [← e]
      exact hmg0
    exact ⟨K, KX, Fs.end_law KX G c hmg⟩
