import PyProof.Rows.All
import Wide.All
import OpenK.AllK
import Wide.FinOn
import HandS.ForMost
import HandS.ForExc
import HandS.Flow
import HandS.Style
import HandS.Zip
import HandS.Deep
import HandS.TupAny
import HandS.IsInst
import HandS.Wide
import HandS.Strs
import HandS.SetFor
import HandS.DictTup
import HandS.TupSets
import HandS.Small
import HandS.RaiseMore
import HandS.Codes
import HandS.SetBool
import HandS.CallLocal
import KE.SortData
import KE.LtData
import KE.KDictKeyed
import HandS.Conv
import HandS.OwnIter
import KE.KDictCopyH
import KE.KDictDisplayH
import KE.DataMinMax
import KE.KeyNested
import HandS.TryOnly
import KE.KStateDown
import HandS.Head0
import HandS.Head1
import HandS.Head2
import HandS.Head3
import HandS.HeadEnd
import HandS.HeadHook1
import PySem.Challenge.RW_gatheryard_k85_whole_orders_that_fit_or
set_option Elab.async false
set_option linter.all false
set_option maxRecDepth 100000
set_option maxHeartbeats 4000000
namespace GY
open PySem PySem.Spec PyProof.Rows L2

/-! ## plain data in a heap -/
/-- not a key: no int stands first -/
def NK : List PyData → Prop
  | [] => True
  | .tuple _ :: _ => True
  | _ => False
/-- the datum of a tuple whose object is known whole -/
abbrev xD (ds : List PyData) : PyData := .dict [(.tuple ds, .none)]
mutual
/-- the value stands for the datum, by what the heap F tracks -/
inductive Rp (F : Hp) : V → PyData → Prop
  | non : Rp F .non .none
  | bl (b : Bool) : Rp F (.bl b) (.bool b)
  | int (i : Int) : Rp F (.int i) (.int i)
  | str (x : Str) : Rp F (.str x) (.str x)
  | lst {a : Addr} {xs : List V} {ds : List PyData} : F a = some (.lst xs) → RpAll F xs ds → Rp F (.ref a) (.list ds)
  | tup {a : Addr} {xs : List V} {ds : List PyData} : F a = some (.tup xs) → RpAll F xs ds → Rp F (.ref a) (.tuple ds)
  | tupx {a : Addr} {o : Obj} {xs : List V} {ds : List PyData} : F a = some (.frz o (.tup xs)) → NK ds → RpAll F xs ds → Rp F (.ref a) (.tuple ds)
  | xt {a : Addr} {its : Array Value} {n : Nat} {xs : List V} {ds : List PyData} : F a = some (.frz { cls := .type "tuple", data := .seq its n } (.tup xs)) → RpAll F xs ds → Rp F (.ref a) (.dict [(.tuple ds, .none)])
inductive RpAll (F : Hp) : List V → List PyData → Prop
  | nil : RpAll F [] []
  | cons {v : V} {vs : List V} {d : PyData} {ds : List PyData} : Rp F v d → RpAll F vs ds → RpAll F (v :: vs) (d :: ds)
end
section
variable {F F' : Hp}
mutual
theorem Rp.mono (e : Same F F') : ∀ (d : PyData) (v : V), Rp F v d → Rp F' v d
  | .none, _, h => by cases h; exact .non
  | .bool _, _, h => by cases h; exact .bl _
  | .int _, _, h => by cases h; exact .int _
  | .str _, _, h => by cases h; exact .str _
  | .list ds, _, h => by
    cases h with
    | lst h1 h2 => exact .lst (e _ _ h1) (RpAll.mono e ds _ h2)
  | .tuple ds, _, h => by
    cases h with
    | tup h1 h2 => exact .tup (e _ _ h1) (RpAll.mono e ds _ h2)
    | tupx h1 h2 h3 => exact .tupx (e _ _ h1) h2 (RpAll.mono e ds _ h3)
  | .dict [(.tuple ds, .none)], _, h => by
    cases h with
    | xt h1 h2 => exact .xt (e _ _ h1) (RpAll.mono e ds _ h2)
theorem RpAll.mono (e : Same F F') : ∀ (ds : List PyData) (vs : List V), RpAll F vs ds → RpAll F' vs ds
  | [], _, h => by cases h; exact .nil
  | d :: ds, _, h => by
    cases h with
    | cons h1 h2 => exact .cons (Rp.mono e d _ h1) (RpAll.mono e ds _ h2)
end
/-- without a tuple marked whole -/
def nX : PyData → Bool
  | .list xs => nXs xs
  | .tuple xs => nXs xs
  | .dict _ => false
  | _ => true
where nXs : List PyData → Bool
  | [] => true
  | x :: xs => nX x && nXs xs
mutual
theorem nX_lay : ∀ d : PyData, d.canLay0 = true → nX d = true
  | .none, _ => rfl
  | .bool _, _ => rfl
  | .int _, _ => rfl
  | .str _, _ => rfl
  | .list xs, h => by rw [nX]; exact nXs_lay xs (by simpa [PyData.canLay0] using h)
  | .tuple xs, h => by rw [nX]; exact nXs_lay xs (by simpa [PyData.canLay0] using h)
  | .dict _, h => by simp [PyData.canLay0] at h
theorem nXs_lay : ∀ ds : List PyData, PyData.canLayAll0 ds = true → nX.nXs ds = true
  | [], _ => rfl
  | d :: ds, h => by
    rw [PyData.canLayAll0, Bool.and_eq_true] at h
    rw [nX.nXs, nX_lay d h.1, nXs_lay ds h.2]
    rfl
end
theorem nX_shaped {d : PyData} (h : SeqAt.shaped d = true) : nX d = true := nX_lay d (SeqAt.canLay_of_shaped h)
theorem rdm {H H' : Hp} {a : Addr} {u : HO} (e : Same H H') (r : Rd H a u) : Rd H' a u := by
  rcases r with r | ⟨o, r⟩
  · exact .inl (e _ _ r)
  · exact .inr ⟨o, e _ _ r⟩
theorem sqt_rd {K : PySem.W.Frag} {H : Hp} {a : Addr} {xs : List V} (r : Rd H a (.tup xs)) : SqT K H a xs := .inl r
mutual
theorem Rp.dp (K : PySem.W.Frag) : ∀ (d : PyData) (v : V), nX d = true → Rp F v d → Dp K F v d
  | .none, _, _, h => by cases h; exact .non
  | .bool _, _, _, h => by cases h; exact .bl _
  | .int _, _, _, h => by cases h; exact .int _
  | .str _, _, _, h => by cases h; exact .str _
  | .list ds, _, n, h => by
    cases h with
    | lst h1 h2 => exact .lst (SqL.of h1) (RpAll.dp K ds _ (by simpa [nX] using n) h2)
  | .tuple ds, _, n, h => by
    cases h with
    | tup h1 h2 => exact .tup (SqT.of h1) (RpAll.dp K ds _ (by simpa [nX] using n) h2)
    | tupx h1 _ h2 => exact .tup (sqt_rd (.inr ⟨_, h1⟩)) (RpAll.dp K ds _ (by simpa [nX] using n) h2)
  | .dict _, _, n, h => by simp [nX] at n
theorem RpAll.dp (K : PySem.W.Frag) : ∀ (ds : List PyData) (vs : List V), nX.nXs ds = true → RpAll F vs ds → DpAll K F vs ds
  | [], _, _, h => by cases h; exact .nil
  | d :: ds, _, n, h => by
    rw [nX.nXs, Bool.and_eq_true] at n
    cases h with
    | cons h1 h2 => exact .cons (Rp.dp K d _ n.1 h1) (RpAll.dp K ds _ n.2 h2)
end
theorem RpAll.length : ∀ {vs : List V} {ds : List PyData}, RpAll F vs ds → vs.length = ds.length
  | _, _, .nil => rfl
  | _, _, .cons _ t => by simp [RpAll.length t]
theorem RpAll.append : ∀ {vs ws : List V} {ds es : List PyData}, RpAll F vs ds → RpAll F ws es → RpAll F (vs ++ ws) (ds ++ es)
  | _, _, _, _, .nil, s => s
  | _, _, _, _, .cons r t, s => .cons r (RpAll.append t s)
theorem RpAll.get : ∀ {vs : List V} {ds : List PyData} {i : Nat} {v : V}, RpAll F vs ds → vs[i]? = some v → ∃ d, ds[i]? = some d ∧ Rp F v d
  | _, _, _, _, .nil, e => by simp at e
  | _, _, 0, _, .cons r _, e => by simp at e; subst e; exact ⟨_, rfl, r⟩
  | _, _, i + 1, v, .cons _ t, e => by
    obtain ⟨d, h1, h2⟩ := RpAll.get (i := i) (v := v) t (by simpa using e)
    exact ⟨d, by simpa using h1, h2⟩
theorem RpAll.at : ∀ {vs : List V} {ds : List PyData} {i : Nat} {d : PyData}, RpAll F vs ds → ds[i]? = some d → ∃ v, vs[i]? = some v ∧ Rp F v d
  | _, _, _, _, .nil, e => by simp at e
  | _, _, 0, _, .cons r _, e => by simp at e; subst e; exact ⟨_, rfl, r⟩
  | _, _, i + 1, d, .cons _ t, e => by
    obtain ⟨v, h1, h2⟩ := RpAll.at (i := i) (d := d) t (by simpa using e)
    exact ⟨v, by simpa using h1, h2⟩
theorem RpAll.drop : ∀ {vs : List V} {ds : List PyData} (n : Nat), RpAll F vs ds → RpAll F (vs.drop n) (ds.drop n)
  | _, _, 0, r => r
  | _, _, _ + 1, .nil => .nil
  | _, _, n + 1, .cons _ t => RpAll.drop n t
theorem RpAll.take : ∀ {vs : List V} {ds : List PyData} (n : Nat), RpAll F vs ds → RpAll F (vs.take n) (ds.take n)
  | _, _, 0, _ => .nil
  | _, _, _ + 1, .nil => .nil
  | _, _, n + 1, .cons r t => .cons r (RpAll.take n t)
theorem RpAll.snoc {vs : List V} {ds : List PyData} {v : V} {d : PyData} (h : RpAll F vs ds) (r : Rp F v d) : RpAll F (vs ++ [v]) (ds ++ [d]) := h.append (.cons r .nil)
theorem RpAll.reverse : ∀ {vs : List V} {ds : List PyData}, RpAll F vs ds → RpAll F vs.reverse ds.reverse
  | _, _, .nil => .nil
  | _, _, .cons r t => by
    rw [List.reverse_cons, List.reverse_cons]
    exact (RpAll.reverse t).snoc r
theorem RpAll.set : ∀ {vs : List V} {ds : List PyData} {v : V} {d : PyData} (i : Nat), RpAll F vs ds → Rp F v d → RpAll F (vs.set i v) (ds.set i d)
  | _, _, _, _, _, .nil, _ => .nil
  | _, _, _, _, 0, .cons _ t, r => .cons r t
  | _, _, _, _, i + 1, .cons q t, r => .cons q (RpAll.set i t r)
theorem RpAll.replicate {v : V} {d : PyData} (r : Rp F v d) : ∀ n : Nat, RpAll F (List.replicate n v) (List.replicate n d)
  | 0 => .nil
  | n + 1 => .cons r (RpAll.replicate r n)
/-- ints stand for themselves -/
theorem RpAll.ints : ∀ {vs : List V} {ns : List Int}, RpAll F vs (ns.map .int) → vs = ns.map V.int
  | _, [], h => by cases h; rfl
  | _, n :: ns, h => by
    cases h with
    | cons h1 h2 =>
      cases h1
      rw [RpAll.ints h2]
      rfl
theorem RpAll.of_ints : ∀ ns : List Int, RpAll F (ns.map V.int) (ns.map .int)
  | [] => .nil
  | n :: ns => .cons (.int n) (RpAll.of_ints ns)
theorem RpAll.bools : ∀ {vs : List V} {ns : List Bool}, RpAll F vs (ns.map .bool) → vs = ns.map V.bl
  | _, [], h => by cases h; rfl
  | _, n :: ns, h => by
    cases h with
    | cons h1 h2 =>
      cases h1
      rw [RpAll.bools h2]
      rfl
theorem Rp.list_inv {v : V} {ds : List PyData} (h : Rp F v (.list ds)) : ∃ a xs, v = .ref a ∧ F a = some (.lst xs) ∧ RpAll F xs ds := by
  cases h with
  | lst h1 h2 => exact ⟨_, _, rfl, h1, h2⟩
theorem Rp.tuple_inv {v : V} {ds : List PyData} (h : Rp F v (.tuple ds)) : ∃ a xs, v = .ref a ∧ Rd F a (.tup xs) ∧ RpAll F xs ds := by
  cases h with
  | tup h1 h2 => exact ⟨_, _, rfl, .inl h1, h2⟩
  | tupx h1 _ h2 => exact ⟨_, _, rfl, .inr ⟨_, h1⟩, h2⟩
/-- a tuple known whole is a tuple -/
theorem Rp.whole {v : V} {ds : List PyData} (h : Rp F v (xD ds)) (n : NK ds) : Rp F v (.tuple ds) := by
  cases h with
  | xt h1 h2 => exact .tupx h1 n h2
theorem Rp.x_inv {v : V} {ds : List PyData} (h : Rp F v (xD ds)) : ∃ a its n xs, v = .ref a ∧ F a = some (.frz { cls := .type "tuple", data := .seq its n } (.tup xs)) ∧ RpAll F xs ds := by
  cases h with
  | xt h1 h2 => exact ⟨_, _, _, _, rfl, h1, h2⟩
theorem Rp.int_inv {v : V} {i : Int} (h : Rp F v (.int i)) : v = .int i := by cases h; rfl
theorem Rp.bool_inv {v : V} {b : Bool} (h : Rp F v (.bool b)) : v = .bl b := by cases h; rfl
theorem Rp.none_inv {v : V} (h : Rp F v .none) : v = .non := by cases h; rfl
end

/-! ## growth -/
/-- F: what is frozen in H. New objects may come; of the old ones that are not frozen none freezes -/
def NT (x : Option HO) : Prop := ∃ o, x = some o ∧ ∀ xs, o ≠ .tup xs
structure Gr (F H F' H' : Hp) : Prop where
  f : Same F F'
  h : Same H H'
  fh : Same F' H'
  nw : ∀ b, F b = none → NT (H b) → F' b = none
section
variable {F H F' H' F2 H2 : Hp} {p : Addr} {o : HO}
theorem Gr.refl (h : Same F H) : Gr F H F H := ⟨Same.refl _, Same.refl _, h, fun _ e _ => e⟩
theorem Gr.trans (a : Gr F H F' H') (b : Gr F' H' F2 H2) : Gr F H F2 H2 :=
  ⟨a.f.trans b.f, a.h.trans b.h, b.fh, fun c e n => b.nw c (a.nw c e n) (let ⟨o, e1, t⟩ := n; ⟨o, a.h _ _ e1, t⟩)⟩
theorem same_upd (hp : H p = none) : Same H (upd H p o) := fun b u e => by
  rw [upd_ne (ne_of_none e hp)]
  exact e
theorem same_upd2 (e : Same F H) : Same (upd F p o) (upd H p o) := fun b u q => by
  by_cases hb : b = p
  · subst hb
    rw [upd_same] at q ⊢
    exact q
  · rw [upd_ne hb] at q ⊢
    exact e b u q
theorem Same.none_of (e : Same F H) (h : H p = none) : F p = none := e.free h
/-- a new object, frozen at once -/
theorem Gr.new (e : Same F H) (hp : H p = none) : Gr F H (upd F p o) (upd H p o) :=
  ⟨same_upd (e.free hp), same_upd hp, same_upd2 e, fun b q n => by
    obtain ⟨o', e', _⟩ := n
    rw [upd_ne (ne_of_none e' hp)]
    exact q⟩
/-- a new object that may change later -/
theorem Gr.raw (e : Same F H) (hp : H p = none) : Gr F H F (upd H p o) :=
  ⟨Same.refl _, same_upd hp, fun b u q => same_upd hp b u (e b u q), fun _ q _ => q⟩
/-- an object that is not frozen freezes: for the later ones -/
theorem same_freeze (e : Same F H) (hp : H p = some o) (hf : F p = none) : Same F (upd F p o) ∧ Same (upd F p o) H :=
  ⟨same_upd hf, fun b u q => by
    by_cases hb : b = p
    · subst hb
      rw [upd_same] at q
      rw [hp]
      exact q
    · rw [upd_ne hb] at q
      exact e b u q⟩
end

/-! ## slots -/
def DictRep (F : Hp) (ws : List (List Key × V)) (kvs : List (List Int × PyData)) : Prop :=
  Paired (fun (p : List Key × V) (q : List Int × PyData) => p.1 = q.1.map Sum.inl ∧ Rp F p.2 q.2) ws kvs
theorem DictRep.mono {F F' : Hp} (e : Same F F') {ws : List (List Key × V)} {kvs : List (List Int × PyData)} (h : DictRep F ws kvs) : DictRep F' ws kvs :=
  Paired.mono (fun p q z => ⟨z.1, Rp.mono e _ _ z.2⟩) h
/-- what a slot holds: nothing known; a frozen datum; a list, a dict of the frame's own that may change; a frozen dict; a set of ints; an urn of three ints -/
inductive Sl where
  | un
  | pu (d : PyData)
  | ol (ds : List PyData)
  | od (kvs : List (List Int × PyData))
  | fd (kvs : List (List Int × PyData))
  | ss (S : Int → Bool) (n : Nat)
  | ur (a : Addr) (n : Nat)
  | uv (a : Addr) (x y z : Int)
  | kt (k : List Int)
  | ad (u : V)
def Sl.own : Sl → Bool
  | .ol _ => true
  | .od _ => true
  | .ur _ _ => true
  | .uv _ _ _ _ => true
  | _ => false
def VOk (w : World) (F H : Hp) (v : V) : Sl → Prop
  | .un => True
  | .pu d => Rp F v d
  | .ol ds => ∃ a xs, v = .ref a ∧ F a = none ∧ H a = some (.lst xs) ∧ RpAll F xs ds
  | .od kvs => ∃ a ws, v = .ref a ∧ F a = none ∧ H a = some (.dT ws) ∧ DictRep F ws kvs
  | .fd kvs => ∃ a ws, v = .ref a ∧ F a = some (.dT ws) ∧ DictRep F ws kvs
  | .ss S n => ∃ a, v = .ref a ∧ F a = some (SetO w a S n)
  | .kt k => ∃ b, v = .ref b ∧ F b = some (.tup ((k.map (Sum.inl : Int → Key)).map kV))
  | .ad u => v = u
  | .ur a n => ∃ x y z : Int, v = .ref a ∧ F a = none ∧ H a = some (.lst [.int x, .int y, .int z]) ∧ (0 ≤ y ∧ y < 2 ^ 62) ∧ 0 ≤ z ∧ z ≤ n
  | .uv a x y z => v = .ref a ∧ F a = none ∧ H a = some (.lst [.int x, .int y, .int z])
theorem VOk.grow {w : World} {F H F' H' : Hp} (g : Gr F H F' H') : ∀ {s : Sl} {v : V}, VOk w F H v s → VOk w F' H' v s
  | .un, _, _ => trivial
  | .pu d, v, h => Rp.mono g.f d v h
  | .ol ds, v, ⟨a, xs, e, n, h, r⟩ => ⟨a, xs, e, g.nw a n ⟨_, h, fun _ z => by cases z⟩, g.h a _ h, RpAll.mono g.f ds xs r⟩
  | .od kvs, v, ⟨a, ws, e, n, h, r⟩ => ⟨a, ws, e, g.nw a n ⟨_, h, fun _ z => by cases z⟩, g.h a _ h, r.mono g.f⟩
  | .ss S n, v, ⟨a, e, h⟩ => ⟨a, e, g.f a _ h⟩
  | .fd kvs, v, ⟨a, ws, e, h, r⟩ => ⟨a, ws, e, g.f a _ h, r.mono g.f⟩
  | .kt k, v, ⟨b, e, h⟩ => ⟨b, e, g.f b _ h⟩
  | .ad u, v, h => h
  | .ur a n, v, ⟨x, y, z, e, m, h, b⟩ => ⟨x, y, z, e, g.nw a m ⟨_, h, fun _ z => by cases z⟩, g.h a _ h, b⟩
  | .uv a x y z, v, ⟨e, m, h⟩ => ⟨e, g.nw a m ⟨_, h, fun _ z => by cases z⟩, g.h a _ h⟩
theorem VOk.own_ref {w : World} {F H : Hp} {s : Sl} {v : V} (h : VOk w F H v s) (o : s.own = true) : ∃ a, v = .ref a ∧ F a = none ∧ H a ≠ none := by
  cases s with
  | ol ds => obtain ⟨a, xs, e, n, h, _⟩ := h; exact ⟨a, e, n, by rw [h]; simp⟩
  | od kvs => obtain ⟨a, ws, e, n, h, _⟩ := h; exact ⟨a, e, n, by rw [h]; simp⟩
  | ur a n => obtain ⟨x, y, z, e, m, h, _⟩ := h; exact ⟨a, e, m, by rw [h]; simp⟩
  | uv a x y z => obtain ⟨e, m, h⟩ := h; exact ⟨a, e, m, by rw [h]; simp⟩
  | fd kvs => cases o
  | un => cases o
  | pu d => cases o
  | kt k => cases o
  | ad u => cases o
  | ss S n => cases o
/-- the frozen and the whole heap at a def's entry -/
abbrev Bs := Hp × Hp
/-- the state by slots -/
structure AS (w : World) (B : Bs) (ρ : List Sl) (F : Hp) (σ : L2.St) (H : Hp) : Prop where
  gr : Gr B.1 B.2 F H
  len : σ.length = ρ.length
  ok : ∀ (i : Nat) (s : Sl), ρ[i]? = some s → s ≠ .un → ∃ v, σ[i]? = some (some v) ∧ VOk w F H v s
  nw : ∀ (i : Nat) (s : Sl) (a : Addr), ρ[i]? = some s → s.own = true → σ[i]? = some (some (.ref a)) → B.2 a = none
  dj : ∀ (i j : Nat) (s t : Sl) (a : Addr), i ≠ j → ρ[i]? = some s → ρ[j]? = some t → s.own = true → t.own = true → σ[i]? = some (some (.ref a)) → σ[j]? ≠ some (some (.ref a))
section
variable {w : World} {B : Bs} {ρ : List Sl} {F H F' H' : Hp} {σ : L2.St}
theorem AS.fh (a : AS w B ρ F σ H) : Same F H := a.gr.fh
theorem AS.grow (a : AS w B ρ F σ H) (g : Gr F H F' H') : AS w B ρ F' σ H' :=
  ⟨a.gr.trans g, a.len, fun i s e n => let ⟨v, h1, h2⟩ := a.ok i s e n; ⟨v, h1, h2.grow g⟩, a.nw, a.dj⟩
theorem AS.pu (a : AS w B ρ F σ H) {i : Nat} {d : PyData} (e : ρ[i]? = some (.pu d)) : ∃ v, σ[i]? = some (some v) ∧ Rp F v d := a.ok i _ e (fun z => by cases z)
/-- a value comes to a slot -/
theorem AS.set (a : AS w B ρ F σ H) {i : Nat} {s : Sl} {v : V} (ok : VOk w F H v s) (hn : ∀ b, s.own = true → v = .ref b → B.2 b = none)
    (hd : ∀ (j : Nat) (t : Sl) (b : Addr), j ≠ i → ρ[j]? = some t → s.own = true → t.own = true → v = .ref b → σ[j]? ≠ some (some (.ref b))) : AS w B (ρ.set i s) F (σ.set i (some v)) H := by
  have look : ∀ (j : Nat) (t : Sl), (ρ.set i s)[j]? = some t → (j = i ∧ t = s ∧ (σ.set i (some v))[j]? = some (some v)) ∨ (j ≠ i ∧ ρ[j]? = some t ∧ (σ.set i (some v))[j]? = σ[j]?) := fun j t e => by
    by_cases hj : i = j
    · subst hj
      have hl : i < ρ.length := by
        have := (List.getElem?_eq_some_iff.mp e).1
        simpa using this
      rw [List.getElem?_set_self hl] at e
      refine .inl ⟨rfl, (Option.some.inj e).symm, ?_⟩
      rw [List.getElem?_set_self (by rw [a.len]; exact hl)]
    · rw [List.getElem?_set_ne hj] at e
      exact .inr ⟨fun z => hj z.symm, e, List.getElem?_set_ne hj⟩
  refine ⟨a.gr, by simp [a.len], fun j t e n => ?_, fun j t b e o q => ?_, fun j k t u b hjk ej ek oj ok' q => ?_⟩
  · rcases look j t e with ⟨rfl, rfl, h⟩ | ⟨hj, e', h⟩
    · exact ⟨v, h, ok⟩
    · rw [h]
      exact a.ok j t e' n
  · rcases look j t e with ⟨rfl, rfl, h⟩ | ⟨hj, e', h⟩
    · rw [h] at q
      exact hn b o (Option.some.inj (Option.some.inj q))
    · rw [h] at q
      exact a.nw j t b e' o q
  · rcases look j t ej with ⟨hj, rfl, h⟩ | ⟨hj, e', h⟩
    · rcases look k u ek with ⟨hk, rfl, h'⟩ | ⟨hk, e'', h'⟩
      · exact absurd (hj.trans hk.symm) hjk
      · rw [h'] 
        rw [h] at q
        exact hd k u b hk e'' oj ok' (Option.some.inj (Option.some.inj q))
    · rcases look k u ek with ⟨hk, rfl, h'⟩ | ⟨hk, e'', h'⟩
      · rw [h']
        intro z
        rw [h] at q
        exact hd j t b hj e' ok' oj (Option.some.inj (Option.some.inj z)) q
      · rw [h']
        rw [h] at q
        exact a.dj j k t u b hjk e' e'' oj ok' q
theorem AS.set_pu (a : AS w B ρ F σ H) {i : Nat} {d : PyData} {v : V} (ok : Rp F v d) : AS w B (ρ.set i (.pu d)) F (σ.set i (some v)) H :=
  a.set (s := .pu d) ok (fun _ z => by cases z) fun _ _ _ _ _ z => by cases z
theorem AS.set_un (a : AS w B ρ F σ H) {i : Nat} {v : Option V} : AS w B (ρ.set i .un) F (σ.set i v) H := by
  have look : ∀ (j : Nat) (t : Sl), (ρ.set i .un)[j]? = some t → t ≠ .un → j ≠ i ∧ ρ[j]? = some t ∧ (σ.set i v)[j]? = σ[j]? := fun j t e n => by
    by_cases hj : i = j
    · subst hj
      have hl : i < ρ.length := by
        have := (List.getElem?_eq_some_iff.mp e).1
        simpa using this
      rw [List.getElem?_set_self hl] at e
      exact absurd (Option.some.inj e).symm n
    · rw [List.getElem?_set_ne hj] at e
      exact ⟨fun z => hj z.symm, e, List.getElem?_set_ne hj⟩
  have nun : ∀ t : Sl, t.own = true → t ≠ .un := fun t o z => by subst z; cases o
  refine ⟨a.gr, by simp [a.len], fun j t e n => ?_, fun j t b e o q => ?_, fun j k t u b hjk ej ek oj ok' q => ?_⟩
  · obtain ⟨_, e', h⟩ := look j t e n
    rw [h]
    exact a.ok j t e' n
  · obtain ⟨_, e', h⟩ := look j t e (nun t o)
    rw [h] at q
    exact a.nw j t b e' o q
  · obtain ⟨_, e', h⟩ := look j t ej (nun t oj)
    obtain ⟨_, e'', h'⟩ := look k u ek (nun u ok')
    rw [h'] 
    rw [h] at q
    exact a.dj j k t u b hjk e' e'' oj ok' q
/-- the slots of a block's own names forgotten -/
def wipeR (ρ : List Sl) : List Nat → List Sl
  | [] => ρ
  | v :: vs => (wipeR ρ vs).set v .un
theorem AS.wipe (a : AS w B ρ F σ H) : ∀ vs : List Nat, AS w B (wipeR ρ vs) F (L2.wipe σ vs) H
  | [] => a
  | v :: vs => by
    unfold wipeR L2.wipe
    exact (AS.wipe a vs).set_un
/-- forget a slot -/
theorem AS.forget (a : AS w B ρ F σ H) (i : Nat) : AS w B (ρ.set i .un) F σ H := by
  by_cases hi : i < σ.length
  · have h := a.set_un (i := i) (v := σ[i])
    have e : σ.set i σ[i] = σ := by simp
    rwa [e] at h
  · have e : ρ.set i .un = ρ := List.set_eq_of_length_le (by rw [← a.len]; omega)
    rw [e]
    exact a
end
end GY
namespace GY
open PySem PySem.Spec PyProof.Rows L2

/-! ## readings by kinds -/
/-- a value of this kind (it may be a slot's own) -/
def tV (w : World) (B : Bs) (ρ : List Sl) (s : Sl) : TE := fun σ H Q => ∃ F, AS w B ρ F σ H ∧ ∀ v F' H', Gr F H F' H' → VOk w F' H' v s → Q v H'
/-- .. a new one -/
def tN (w : World) (B : Bs) (ρ : List Sl) (s : Sl) : TE := fun σ H Q => ∃ F, AS w B ρ F σ H ∧ ∀ v F' H', Gr F H F' H' → VOk w F' H' v s → (∀ a, s.own = true → v = .ref a → H a = none) → Q v H'
def tT (w : World) (B : Bs) (ρ : List Sl) (b : Bool) : TT := fun σ H Q => ∃ F, AS w B ρ F σ H ∧ ∀ F' H', Gr F H F' H' → Q b H'
/-- arguments -/
inductive VsOk (w : World) (F H : Hp) : List V → List Sl → Prop
  | nil : VsOk w F H [] []
  | cons {v : V} {vs : List V} {s : Sl} {ss : List Sl} : VOk w F H v s → VsOk w F H vs ss → VsOk w F H (v :: vs) (s :: ss)
theorem VsOk.grow {w : World} {F H F' H' : Hp} (g : Gr F H F' H') : ∀ {vs : List V} {ss : List Sl}, VsOk w F H vs ss → VsOk w F' H' vs ss
  | _, _, .nil => .nil
  | _, _, .cons r t => .cons (r.grow g) (VsOk.grow g t)
def tA (w : World) (B : Bs) (ρ : List Sl) (ss : List Sl) : TA := fun σ H Q => ∃ F, AS w B ρ F σ H ∧ ∀ vs F' H', Gr F H F' H' → VsOk w F' H' vs ss → Q vs H'
theorem VsOk.pus {w : World} {F H : Hp} : ∀ {vs : List V} {ds : List PyData}, VsOk w F H vs (ds.map .pu) → RpAll F vs ds
  | _, [], h => by cases h; exact .nil
  | _, d :: ds, h => by
    cases h with
    | cons h1 h2 => exact .cons h1 (VsOk.pus h2)

section
variable {X : Cx} {e a b : Expr} {pos : Pos}
theorem weakE {t t' : TE} (h : PE X e t) (i : ∀ σ H Q, t' σ H Q → t σ H Q) : PE X e t' := ⟨fun pins s σ H Q I q => h.run pins s σ H Q I (i σ H Q q)⟩
theorem weakT {t t' : TT} (h : PT X e t) (i : ∀ σ H Q, t' σ H Q → t σ H Q) : PT X e t' := ⟨fun pins s σ H Q I q => h.run pins s σ H Q I (i σ H Q q)⟩
theorem weakW {t t' : TT} (h : PW X e t) (i : ∀ σ H Q, t' σ H Q → t σ H Q) : PW X e t' := ⟨fun wh pins s σ H Q I q => h.run wh pins s σ H Q I (i σ H Q q)⟩
theorem weakA {es : List Expr} {t t' : TA} (h : PA X es t) (i : ∀ σ H Q, t' σ H Q → t σ H Q) : PA X es t' := ⟨fun pos pins s σ H Q I q => h.run pos pins s σ H Q I (i σ H Q q)⟩
theorem weakS {st : Stmt} {t t' : TS} (h : PS X st t) (i : ∀ D σ H, t' D σ H → t D σ H) : PS X st t' := ⟨fun pins s σ H D I q => h.run pins s σ H D I (i D σ H q)⟩
theorem weakSs {st : List Stmt} {t t' : TS} (h : PSs X st t) (i : ∀ D σ H, t' D σ H → t D σ H) : PSs X st t' := ⟨fun pins s σ H D I q => h.run pins s σ H D I (i D σ H q)⟩
theorem weakI {tg it : Expr} {t t' : TI} (h : PI X tg it t) (i : ∀ σ H R, t' σ H R → t σ H R) : PI X tg it t' := ⟨fun pins s σ H R I q => h.run pins s σ H R I (i σ H R q)⟩
theorem weakTs {ifs : List Expr} {t t' : TT} (h : PTs X ifs t) (i : ∀ σ H Q, t' σ H Q → t σ H Q) : PTs X ifs t' := ⟨fun pins s σ H Q I q => h.run pins s σ H Q I (i σ H Q q)⟩
/-- whichever of many readings -/
theorem anyE {α : Type} {p : α → Prop} {t : α → TE} (h : ∀ x, p x → PE X e (t x)) : PE X e (fun σ H Q => ∃ x, p x ∧ t x σ H Q) :=
  ⟨fun pins s σ H Q I q => by obtain ⟨x, hp, q⟩ := q; exact (h x hp).run pins s σ H Q I q⟩
theorem anyTs {α : Type} {p : α → Prop} {ifs : List Expr} {t : α → TT} (h : ∀ x, p x → PTs X ifs (t x)) : PTs X ifs (fun σ H Q => ∃ x, p x ∧ t x σ H Q) :=
  ⟨fun pins s σ H Q I q => by obtain ⟨x, hp, q⟩ := q; exact (h x hp).run pins s σ H Q I q⟩
theorem anySs {α : Type} {p : α → Prop} {st : List Stmt} {t : α → TS} (h : ∀ x, p x → PSs X st (t x)) : PSs X st (fun D σ H => ∃ x, p x ∧ t x D σ H) :=
  ⟨fun pins s σ H D I q => by obtain ⟨x, hp, q⟩ := q; exact (h x hp).run pins s σ H D I q⟩

variable {B : Bs} {ρ : List Sl} {s s1 s2 : Sl} {d : PyData}
theorem dV (h : PE X e (tN X.w B ρ s)) : PE X e (tV X.w B ρ s) := weakE h fun σ H Q ⟨F, a, k⟩ => ⟨F, a, fun v F' H' g o _ => k v F' H' g o⟩
theorem dN (h : PE X e (tV X.w B ρ (.pu d))) : PE X e (tN X.w B ρ (.pu d)) := weakE h fun σ H Q ⟨F, a, k⟩ => ⟨F, a, fun v F' H' g o => k v F' H' g o fun _ z => by cases z⟩

/-! ## names and constants -/
theorem dvar (i : Nat) {x : Str} (hρ : ρ[i]? = some s := by rfl) (hs : s ≠ .un := by intro z; cases z) (hN : X.N[i]? = some x := by rfl) (hv : Vis X.env.scope x := by first | exact Or.inl rfl | exact Or.inr (Or.inl rfl) | exact Or.inr (Or.inr rfl)) (hd : (x == ("__debug__" : Str)) = false := by decide)
    (hcd : (x == ("__classdict__" : Str)) = false := by decide) : PE X (.Name x pos) (tV X.w B ρ s) :=
  weakE (pe_var hN hv hd hcd) fun σ H Q ⟨F, a, k⟩ => let ⟨v, h1, h2⟩ := a.ok i s hρ hs; ⟨v, h1, k v F H (Gr.refl a.fh) h2⟩
theorem dint {i : Int} {j} : PE X (.Constant (.int i) j pos) (tV X.w B ρ (.pu (.int i))) := weakE pe_int fun σ H Q ⟨F, a, k⟩ => k _ F H (Gr.refl a.fh) (Rp.int i)
theorem dbl {i : Bool} {j} : PE X (.Constant (.bool i) j pos) (tV X.w B ρ (.pu (.bool i))) := weakE pe_bl fun σ H Q ⟨F, a, k⟩ => k _ F H (Gr.refl a.fh) (Rp.bl i)
theorem dnon {j} : PE X (.Constant .none j pos) (tV X.w B ρ (.pu .none)) := weakE pe_non fun σ H Q ⟨F, a, k⟩ => k _ F H (Gr.refl a.fh) Rp.non
theorem dstr {x : String} {j} : PE X (.Constant (.str x) j pos) (tV X.w B ρ (.pu (.str x))) := weakE pe_str fun σ H Q ⟨F, a, k⟩ => k _ F H (Gr.refl a.fh) (Rp.str _)

/-! ## operators -/
/-- what an operator by values gives on kinds -/
def DOp (w : World) (r : R2) (s1 s2 s : Sl) : Prop := ∀ (x y : V) (F H : Hp) (Q : VK), Same F H → VOk w F H x s1 → VOk w F H y s2 → (∀ v F' H', Gr F H F' H' → VOk w F' H' v s → (∀ a, s.own = true → v = .ref a → H a = none) → Q v H') → r x y H Q
theorem seq2 {ta tb : TE} {r : R2} {w : World} (hr : DOp w r s1 s2 s) {σ : L2.St} {H : Hp} {Q : VK} (q : tN w B ρ s σ H Q) : (tV w B ρ s1) σ H fun x H1 => (tV w B ρ s2) σ H1 fun y H2 => r x y H2 Q := by
  obtain ⟨F, a, k⟩ := q
  refine ⟨F, a, fun x F1 H1 g1 o1 => ⟨F1, a.grow g1, fun y F2 H2 g2 o2 => hr x y F2 H2 Q g2.fh (o1.grow g2) o2 fun v F' H' g o n => ?_⟩⟩
  exact k v F' H' (g1.trans (g2.trans g)) o fun c oc e => (g1.h.trans g2.h).free (n c oc e)
theorem dop {op : Operator} {r : R2} (ho : OpR X (binaryOp op) r) (ha : PE X a (tV X.w B ρ s1)) (hb : PE X b (tV X.w B ρ s2)) (hr : DOp X.w r s1 s2 s) : PE X (.BinOp a op b pos) (tN X.w B ρ s) :=
  weakE (pe_op ho ha hb) fun σ H Q q => seq2 (ta := tV X.w B ρ s1) (tb := tV X.w B ρ s2) hr q
theorem dcmp {op : CmpOp} {r : R2} (ho : OpR X (compareOp op) r) (ha : PE X a (tV X.w B ρ s1)) (hb : PE X b (tV X.w B ρ s2)) (hr : DOp X.w r s1 s2 s) (hm : behindInMarks op b = false := by first | exact nomark _ | rfl) : PE X (.Compare a [op] [b] pos) (tN X.w B ρ s) :=
  weakE (pe_cmpR ho ha hb hm) fun σ H Q q => seq2 (ta := tV X.w B ρ s1) (tb := tV X.w B ρ s2) hr q
theorem dix {r : R2} (hr : IxR X r) (ha : PE X a (tV X.w B ρ s1)) (hb : PE X b (tV X.w B ρ s2)) (hd : DOp X.w r s1 s2 s) (hs : PlainIx b := by intro _ _; rfl) : PE X (.Subscript a b pos) (tN X.w B ρ s) :=
  weakE (pe_ix hr ha hb hs) fun σ H Q q => seq2 (ta := tV X.w B ρ s1) (tb := tV X.w B ρ s2) hd q
theorem op_I0 {w : World} {g : Int → Int → V} {i j : Int} {d : PyData} (h : ∀ F, Rp F (g i j) d) : DOp w (rI0 g) (.pu (.int i)) (.pu (.int j)) (.pu d) := fun x y F H Q e ox oy k =>
  ⟨i, j, Rp.int_inv ox, Rp.int_inv oy, k _ F H (Gr.refl e) (h F) fun _ z => by cases z⟩
theorem op_I {w : World} {C : Int → Int → Prop} {g : Int → Int → V} {i j : Int} {d : PyData} (c : C i j) (h : ∀ F, Rp F (g i j) d) : DOp w (rI C g) (.pu (.int i)) (.pu (.int j)) (.pu d) := fun x y F H Q e ox oy k =>
  ⟨i, j, Rp.int_inv ox, Rp.int_inv oy, c, k _ F H (Gr.refl e) (h F) fun _ z => by cases z⟩
section
variable {i j : Int}
theorem dadd (ha : PE X a (tV X.w B ρ (.pu (.int i)))) (hb : PE X b (tV X.w B ρ (.pu (.int j)))) : PE X (.BinOp a .Add b pos) (tV X.w B ρ (.pu (.int (i + j)))) := dV (dop op_add ha hb (op_I0 fun _ => .int _))
theorem dsub (ha : PE X a (tV X.w B ρ (.pu (.int i)))) (hb : PE X b (tV X.w B ρ (.pu (.int j)))) : PE X (.BinOp a .Sub b pos) (tV X.w B ρ (.pu (.int (i - j)))) := dV (dop op_sub ha hb (op_I0 fun _ => .int _))
theorem dmul (ha : PE X a (tV X.w B ρ (.pu (.int i)))) (hb : PE X b (tV X.w B ρ (.pu (.int j)))) (c : CMul i j) : PE X (.BinOp a .Mult b pos) (tV X.w B ρ (.pu (.int (i * j)))) := dV (dop op_mul ha hb (op_I c fun _ => .int _))
theorem dmodN (ha : PE X a (tV X.w B ρ (.pu (.int i)))) (hb : PE X b (tV X.w B ρ (.pu (.int j)))) (c : 0 < j) : PE X (.BinOp a .Mod b pos) (tV X.w B ρ (.pu (.int (i % j)))) := dV (dop op_mod ha hb (op_I c fun _ => .int _))
theorem dfdiv (ha : PE X a (tV X.w B ρ (.pu (.int i)))) (hb : PE X b (tV X.w B ρ (.pu (.int j)))) (c : CDiv i j) : PE X (.BinOp a .FloorDiv b pos) (tV X.w B ρ (.pu (.int (i / j)))) := dV (dop op_fdiv ha hb (op_I c fun _ => .int _))
theorem dpow (ha : PE X a (tV X.w B ρ (.pu (.int i)))) (hb : PE X b (tV X.w B ρ (.pu (.int j)))) (c : CPow i j) : PE X (.BinOp a .Pow b pos) (tV X.w B ρ (.pu (.int (i ^ j.toNat)))) := dV (dop op_pow ha hb (op_I c fun _ => .int _))
theorem dlt (ha : PE X a (tV X.w B ρ (.pu (.int i)))) (hb : PE X b (tV X.w B ρ (.pu (.int j)))) : PE X (.Compare a [.Lt] [b] pos) (tV X.w B ρ (.pu (.bool (decide (i < j))))) := dV (dcmp op_lt ha hb (op_I0 fun _ => .bl _))
theorem dge (ha : PE X a (tV X.w B ρ (.pu (.int i)))) (hb : PE X b (tV X.w B ρ (.pu (.int j)))) : PE X (.Compare a [.GtE] [b] pos) (tV X.w B ρ (.pu (.bool (decide (j ≤ i))))) := dV (dcmp op_ge ha hb (op_I0 fun _ => .bl _))
theorem dgt (ha : PE X a (tV X.w B ρ (.pu (.int i)))) (hb : PE X b (tV X.w B ρ (.pu (.int j)))) : PE X (.Compare a [.Gt] [b] pos) (tV X.w B ρ (.pu (.bool (decide (j < i))))) := dV (dcmp op_gt ha hb (op_I0 fun _ => .bl _))
end
/-- == and != of data -/
theorem op_eqW {K : PySem.W.Frag} {w : World} {d e : PyData} (sd : SeqAt.shaped d = true) (se : SeqAt.shaped e = true) : DOp w (rEqD K) (.pu d) (.pu e) (.pu (.bool (PyData.eqv d e))) := fun x y F H Q f ox oy k =>
  ⟨d, e, Rp.dp K d x (nX_shaped sd) (Rp.mono f d x ox), Rp.dp K e y (nX_shaped se) (Rp.mono f e y oy), sd, se, k _ F H (Gr.refl f) (.bl _) fun _ z => by cases z⟩
theorem op_neW {K : PySem.W.Frag} {w : World} {d e : PyData} (sd : SeqAt.shaped d = true) (se : SeqAt.shaped e = true) : DOp w (rNeD K) (.pu d) (.pu e) (.pu (.bool (!PyData.eqv d e))) := fun x y F H Q f ox oy k =>
  ⟨d, e, Rp.dp K d x (nX_shaped sd) (Rp.mono f d x ox), Rp.dp K e y (nX_shaped se) (Rp.mono f e y oy), sd, se, k _ F H (Gr.refl f) (.bl _) fun _ z => by cases z⟩
theorem deq {k : Nat} (hr : Room k X.A) {d e : PyData} (ha : PE X a (tV X.w B ρ (.pu d))) (hb : PE X b (tV X.w B ρ (.pu e))) {r : Bool} (h : PyData.eqv d e = r) (sd : SeqAt.shaped d = true := by rfl) (se : SeqAt.shaped e = true := by rfl) :
    PE X (.Compare a [.Eq] [b] pos) (tV X.w B ρ (.pu (.bool r))) := by rw [← h]; exact dV (dcmp (op_eqD hr.units) ha hb (op_eqW sd se))
theorem dne {k : Nat} (hr : Room k X.A) {d e : PyData} (ha : PE X a (tV X.w B ρ (.pu d))) (hb : PE X b (tV X.w B ρ (.pu e))) {r : Bool} (h : (!PyData.eqv d e) = r) (sd : SeqAt.shaped d = true := by rfl) (se : SeqAt.shaped e = true := by rfl) :
    PE X (.Compare a [.NotEq] [b] pos) (tV X.w B ρ (.pu (.bool r))) := by rw [← h]; exact dV (dcmp (op_neD hr.units) ha hb (op_neW sd se))
/-- an int in a list or tuple of ints -/
theorem rIn_ints {K : PySem.W.Frag} {i : Int} : ∀ ns : List Int, inV (.int i) (ns.map V.int) = decide (i ∈ ns)
  | [] => rfl
  | n :: ns => by
    have ih := rIn_ints (K := K) (i := i) ns
    unfold inV at ih ⊢
    rw [List.map_cons, List.any_cons, ih]
    show ((n == i) || decide (i ∈ ns)) = decide (i ∈ n :: ns)
    by_cases h : n = i
    · subst h; simp
    · have h2 : ¬ i = n := fun z => h z.symm
      simp [h, h2]
theorem flat_ints : ∀ ns : List Int, (ns.map V.int).all flatV = true
  | [] => rfl
  | _ :: ns => by rw [List.map_cons, List.all_cons, flat_ints ns]; rfl
/-- a sequence's datum: a list or a tuple -/
def isSeq (d : PyData) (ds : List PyData) : Prop := d = .list ds ∨ d = .tuple ds
theorem seq_at {K : PySem.W.Frag} {F H : Hp} {x : V} {d : PyData} {ds : List PyData} (f : Same F H) (o : Rp F x d) (hd : isSeq d ds) : ∃ p xs, x = .ref p ∧ (SqL K H p xs ∨ SqT K H p xs) ∧ RpAll F xs ds := by
  rcases hd with rfl | rfl
  · obtain ⟨p, xs, e, h, r⟩ := o.list_inv
    exact ⟨p, xs, e, .inl (SqL.of (f _ _ h)), r⟩
  · obtain ⟨p, xs, e, h, r⟩ := o.tuple_inv
    exact ⟨p, xs, e, .inr (sqt_rd (rdm f h)), r⟩
theorem op_inI {K : PySem.W.Frag} {w : World} {i : Int} {ns : List Int} {d : PyData} (hd : isSeq d (ns.map .int)) (neg : Bool) : DOp w (rIn K neg) (.pu (.int i)) (.pu d) (.pu (.bool (if neg then !decide (i ∈ ns) else decide (i ∈ ns)))) := fun x y F H Q f ox oy k => by
  obtain ⟨p, xs, rfl, hs, r⟩ := seq_at (K := K) f oy hd
  have e := r.ints
  subst e
  have ex := Rp.int_inv ox
  subst ex
  refine ⟨p, _, rfl, hs, rfl, flat_ints ns, ?_⟩
  rw [rIn_ints (K := K)]
  exact k _ F H (Gr.refl f) (.bl _) fun _ z => by cases z
theorem din {i : Int} {ns : List Int} {d : PyData} (ha : PE X a (tV X.w B ρ (.pu (.int i)))) (hb : PE X b (tV X.w B ρ (.pu d))) (hd : isSeq d (ns.map .int) := by first | exact Or.inl rfl | exact Or.inr rfl) (hm : behindInMarks .In b = false := by rfl) :
    PE X (.Compare a [.In] [b] pos) (tV X.w B ρ (.pu (.bool (decide (i ∈ ns))))) := dV (dcmp op_in_seq ha hb (op_inI hd false) hm)
theorem dnin {i : Int} {ns : List Int} {d : PyData} (ha : PE X a (tV X.w B ρ (.pu (.int i)))) (hb : PE X b (tV X.w B ρ (.pu d))) (hd : isSeq d (ns.map .int) := by first | exact Or.inl rfl | exact Or.inr rfl) (hm : behindInMarks .NotIn b = false := by rfl) :
    PE X (.Compare a [.NotIn] [b] pos) (tV X.w B ρ (.pu (.bool (!decide (i ∈ ns))))) := dV (dcmp op_notIn_seq ha hb (op_inI hd true) hm)
/-- an int in a list that may change -/
theorem op_inO {K : PySem.W.Frag} {w : World} {i : Int} {ns : List Int} (neg : Bool) : DOp w (rIn K neg) (.pu (.int i)) (.ol (ns.map .int)) (.pu (.bool (if neg then !decide (i ∈ ns) else decide (i ∈ ns)))) := fun x y F H Q f ox oy k => by
  obtain ⟨p, xs, rfl, _, hs, r⟩ := oy
  have e := r.ints
  subst e
  have ex := Rp.int_inv ox
  subst ex
  refine ⟨p, _, rfl, .inl (SqL.of hs), rfl, flat_ints ns, ?_⟩
  rw [rIn_ints (K := K)]
  exact k _ F H (Gr.refl f) (.bl _) fun _ z => by cases z
theorem dninO {i : Int} {ns : List Int} (ha : PE X a (tV X.w B ρ (.pu (.int i)))) (hb : PE X b (tV X.w B ρ (.ol (ns.map .int)))) (hm : behindInMarks .NotIn b = false := by rfl) :
    PE X (.Compare a [.NotIn] [b] pos) (tV X.w B ρ (.pu (.bool (!decide (i ∈ ns))))) := dV (dcmp op_notIn_seq ha hb (op_inO true) hm)
/-- a datum in a list of data -/
theorem op_inL {K : PySem.W.Frag} {w : World} {d : PyData} {ds : List PyData} (sd : SeqAt.shaped d = true) (ss : SeqAt.shaped (.list ds) = true) : DOp w (rInD K) (.pu d) (.pu (.list ds)) (.pu (.bool (ds.any fun z => PyData.eqv z d))) := fun x y F H Q f ox oy k =>
  ⟨d, ds, Rp.dp K _ _ (nX_shaped sd) (Rp.mono f _ _ ox), Rp.dp K _ _ (nX_shaped ss) (Rp.mono f _ _ oy), sd, ss, k _ F H (Gr.refl f) (.bl _) fun _ z => by cases z⟩
theorem dinD {k : Nat} (hr : Room k X.A) {d : PyData} {ds : List PyData} (ha : PE X a (tV X.w B ρ (.pu d))) (hb : PE X b (tV X.w B ρ (.pu (.list ds)))) (sd : SeqAt.shaped d = true) (ss : SeqAt.shaped (.list ds) = true) {r : Bool} (h : (ds.any fun z => PyData.eqv z d) = r) (hm : behindInMarks .In b = false := by rfl) :
    PE X (.Compare a [.In] [b] pos) (tV X.w B ρ (.pu (.bool r))) := by rw [← h]; exact dV (dcmp (op_inD (by have := hr.un; omega)) ha hb (op_inL sd ss) hm)
/-- None -/
def isNoneD : PyData → Bool
  | .none => true
  | _ => false
theorem isNone_rp {F : Hp} {d : PyData} {x : V} (ox : Rp F x d) : decide (x = .non) = isNoneD d := by
  cases ox <;> rfl
theorem disN {d : PyData} (ha : PE X a (tV X.w B ρ (.pu d))) {j pos'} : PE X (.Compare a [.Is] [.Constant .none j pos'] pos) (tV X.w B ρ (.pu (.bool (isNoneD d)))) :=
  dV (dcmp (s1 := .pu d) (s2 := .pu .none) op_isN ha dnon (fun x y F H Q f ox oy k => ⟨Rp.none_inv oy, by
    rw [isNone_rp ox]
    exact k _ F H (Gr.refl f) (Rp.bl _) fun _ z => by cases z⟩))

/-! ## tests -/
theorem tcmp {b : Bool} (h : PE X e (tV X.w B ρ (.pu (.bool b)))) (he : ∀ whole, isTrue e X.env whole = (do let v ← whole; standAt e.pos; holding [v] (truthy v)) := by intro _; rfl) : PT X e (tT X.w B ρ b) :=
  weakT (pt_val h he) fun σ H Q ⟨F, a, k⟩ => ⟨F, a, fun v F' H' g o => ⟨b, Rp.bool_inv o, k F' H' g⟩⟩
/-- a comparison as a test -/
theorem tcmpR {op : CmpOp} {r : R2} {v : Bool} (ho : OpR X (compareOp op) r) (ha : PE X a (tV X.w B ρ s1)) (hb : PE X b (tV X.w B ρ s2)) (hr : DOp X.w r s1 s2 (.pu (.bool v))) (hm : behindInMarks op b = false := by first | exact nomark _ | rfl) : PT X (.Compare a [op] [b] pos) (tT X.w B ρ v) :=
  weakT (pt_cmpR ho ha hb hm) fun σ H Q ⟨F, a, k⟩ => seq2 (ta := tV X.w B ρ s1) (tb := tV X.w B ρ s2) hr ⟨F, a, fun u F' H' g o _ => ⟨v, Rp.bool_inv o, k F' H' g⟩⟩
theorem tnot {b : Bool} (h : PT X e (tT X.w B ρ b)) : PT X (.UnaryOp .Not e pos) (tT X.w B ρ (!b)) := weakT (pt_not h) fun σ H Q ⟨F, a, k⟩ => ⟨F, a, fun F' H' g => k F' H' g⟩
theorem tand1 {c : Bool} (h : PT X a (tT X.w B ρ c)) : PW X (.BoolOp .And [a] pos) (tT X.w B ρ c) := pw_and1 h
theorem tor1 {c : Bool} (h : PT X a (tT X.w B ρ c)) : PW X (.BoolOp .Or [a] pos) (tT X.w B ρ c) := pw_or1 h
theorem tor2 {c c2 : Bool} {rest : List Expr} (h : PT X a (tT X.w B ρ c)) (h2 : c = false → PW X (.BoolOp .Or (b :: rest) pos) (tT X.w B ρ c2)) : PW X (.BoolOp .Or (a :: b :: rest) pos) (tT X.w B ρ (c || c2)) := by
  cases c with
  | true =>
    refine weakW (pw_or (tB' := fun _ _ _ => False) h ⟨fun _ _ _ _ _ _ _ z => z.elim⟩) fun σ H Q ⟨F, a, k⟩ => ⟨F, a, fun F' H' g => ?_⟩
    show Q true H'
    exact k F' H' g
  | false =>
    refine weakW (pw_or h (h2 rfl)) fun σ H Q ⟨F, a, k⟩ => ⟨F, a, fun F1 H1 g1 => ?_⟩
    exact ⟨F1, a.grow g1, fun F' H' g => k F' H' (g1.trans g)⟩
theorem tand2 {c c2 : Bool} {rest : List Expr} (h : PT X a (tT X.w B ρ c)) (h2 : c = true → PW X (.BoolOp .And (b :: rest) pos) (tT X.w B ρ c2)) : PW X (.BoolOp .And (a :: b :: rest) pos) (tT X.w B ρ (c && c2)) := by
  cases c with
  | false =>
    refine weakW (pw_and (tB' := fun _ _ _ => False) h ⟨fun _ _ _ _ _ _ _ z => z.elim⟩) fun σ H Q ⟨F, a, k⟩ => ⟨F, a, fun F' H' g => ?_⟩
    show Q false H'
    exact k F' H' g
  | true =>
    refine weakW (pw_and h (h2 rfl)) fun σ H Q ⟨F, a, k⟩ => ⟨F, a, fun F1 H1 g1 => ?_⟩
    exact ⟨F1, a.grow g1, fun F' H' g => k F' H' (g1.trans g)⟩
/-- truth values by and, or, not -/
theorem dand2 {c c2 : Bool} {rest : List Expr} (h : PE X a (tV X.w B ρ (.pu (.bool c)))) (h2 : c = true → PE X (.BoolOp .And (b :: rest) pos) (tV X.w B ρ (.pu (.bool c2)))) : PE X (.BoolOp .And (a :: b :: rest) pos) (tV X.w B ρ (.pu (.bool (c && c2)))) := by
  cases c with
  | false =>
    refine weakE (pe_and (tb := fun _ _ _ => False) h ⟨fun _ _ _ _ _ _ z => z.elim⟩) fun σ H Q ⟨F, a, k⟩ => ⟨F, a, fun v F' H' g o => ⟨false, Rp.bool_inv o, ?_⟩⟩
    show Q (.bl false) H'
    exact k _ F' H' g (Rp.bl false)
  | true =>
    refine weakE (pe_and h (h2 rfl)) fun σ H Q ⟨F, a, k⟩ => ⟨F, a, fun v F1 H1 g1 o => ⟨true, Rp.bool_inv o, ?_⟩⟩
    exact ⟨F1, a.grow g1, fun v F' H' g o => k v F' H' (g1.trans g) o⟩
theorem dor2 {c c2 : Bool} {rest : List Expr} (h : PE X a (tV X.w B ρ (.pu (.bool c)))) (h2 : c = false → PE X (.BoolOp .Or (b :: rest) pos) (tV X.w B ρ (.pu (.bool c2)))) : PE X (.BoolOp .Or (a :: b :: rest) pos) (tV X.w B ρ (.pu (.bool (c || c2)))) := by
  cases c with
  | true =>
    refine weakE (pe_or (tb := fun _ _ _ => False) h ⟨fun _ _ _ _ _ _ z => z.elim⟩) fun σ H Q ⟨F, a, k⟩ => ⟨F, a, fun v F' H' g o => ⟨true, Rp.bool_inv o, ?_⟩⟩
    show Q (.bl true) H'
    exact k _ F' H' g (Rp.bl true)
  | false =>
    refine weakE (pe_or h (h2 rfl)) fun σ H Q ⟨F, a, k⟩ => ⟨F, a, fun v F1 H1 g1 o => ⟨false, Rp.bool_inv o, ?_⟩⟩
    exact ⟨F1, a.grow g1, fun v F' H' g o => k v F' H' (g1.trans g) o⟩
theorem done1 {op} (h : PE X a (tV X.w B ρ s)) : PE X (.BoolOp op [a] pos) (tV X.w B ρ s) := pe_one h
theorem dnot {c : Bool} (h : PE X a (tV X.w B ρ (.pu (.bool c)))) : PE X (.UnaryOp .Not a pos) (tV X.w B ρ (.pu (.bool (!c)))) :=
  weakE (pe_not h) fun σ H Q ⟨F, a, k⟩ => ⟨F, a, fun v F' H' g o => ⟨c, Rp.bool_inv o, k _ F' H' g (Rp.bl _)⟩⟩
theorem dif {c : Bool} {t u v : Expr} (hc : PT X t (tT X.w B ρ c)) (h1 : c = true → PE X u (tV X.w B ρ s)) (h2 : c = false → PE X v (tV X.w B ρ s)) : PE X (.IfExp t u v pos) (tV X.w B ρ s) := by
  cases c with
  | true =>
    refine weakE (pe_ifExp (tb := fun _ _ _ => False) hc (h1 rfl) ⟨fun _ _ _ _ _ _ z => z.elim⟩) fun σ H Q ⟨F, a, k⟩ => ⟨F, a, fun F1 H1 g1 => ?_⟩
    show (tV X.w B ρ s) σ H1 Q
    exact ⟨F1, a.grow g1, fun v F' H' g o => k v F' H' (g1.trans g) o⟩
  | false =>
    refine weakE (pe_ifExp (ta := fun _ _ _ => False) hc ⟨fun _ _ _ _ _ _ z => z.elim⟩ (h2 rfl)) fun σ H Q ⟨F, a, k⟩ => ⟨F, a, fun F1 H1 g1 => ?_⟩
    show (tV X.w B ρ s) σ H1 Q
    exact ⟨F1, a.grow g1, fun v F' H' g o => k v F' H' (g1.trans g) o⟩
theorem deqT {s' : Sl} (h : PE X e (tV X.w B ρ s)) (q : s = s') : PE X e (tV X.w B ρ s') := by rw [← q]; exact h

/-! ## arguments, displays -/
theorem anil : PA X [] (tA X.w B ρ []) := weakA pa_nil fun σ H Q ⟨F, a, k⟩ => k [] F H (Gr.refl a.fh) .nil
theorem acons {es : List Expr} {ss : List Sl} (h : PE X e (tV X.w B ρ s)) (hr : PA X es (tA X.w B ρ ss)) (hs : starEach (e :: es) X.env = (false, eval e X.env) :: starEach es X.env := by rfl) : PA X (e :: es) (tA X.w B ρ (s :: ss)) :=
  weakA (pa_cons h hr hs) fun σ H Q ⟨F, a, k⟩ => ⟨F, a, fun v F1 H1 g1 o1 => ⟨F1, a.grow g1, fun vs F2 H2 g2 o2 => k (v :: vs) F2 H2 (g1.trans g2) (.cons (o1.grow g2) o2)⟩⟩
theorem dtup {es : List Expr} {x1} {ds : List PyData} (h : PA X es (tA X.w B ρ (ds.map .pu))) (hl : ds.length ≤ 1000 := by decide) : PE X (.Tuple es x1 pos) (tV X.w B ρ (.pu (.tuple ds))) :=
  weakE (pe_tup h) fun σ H Q ⟨F, a, k⟩ => ⟨F, a, fun vs F1 H1 g1 o1 => ⟨by rw [o1.pus.length]; exact Nat.le_of_lt (small1000 hl), fun p hp =>
    k _ _ _ (g1.trans (Gr.new g1.fh hp)) (Rp.tup upd_same (RpAll.mono (same_upd (g1.fh.free hp)) _ _ o1.pus))⟩⟩
/-- a list display, new -/
theorem dlstN {es : List Expr} {ds : List PyData} (h : PA X es (tA X.w B ρ (ds.map .pu))) (hl : ds.length ≤ 1000 := by decide) : PE X (.List es pos) (tN X.w B ρ (.ol ds)) :=
  weakE (pe_lst h) fun σ H Q ⟨F, a, k⟩ => ⟨F, a, fun vs F1 H1 g1 o1 => ⟨by rw [o1.pus.length]; exact Nat.le_of_lt (small1000 hl), fun p hp =>
    k _ _ _ (g1.trans (Gr.raw g1.fh hp)) ⟨p, vs, rfl, g1.fh.free hp, upd_same, o1.pus⟩ fun c _ e => by
      have e : V.ref p = V.ref c := e
      injection e with e
      subst e
      exact g1.h.free hp⟩⟩
/-- .. frozen -/
theorem dlst {es : List Expr} {ds : List PyData} (h : PA X es (tA X.w B ρ (ds.map .pu))) (hl : ds.length ≤ 1000 := by decide) : PE X (.List es pos) (tV X.w B ρ (.pu (.list ds))) :=
  weakE (pe_lst h) fun σ H Q ⟨F, a, k⟩ => ⟨F, a, fun vs F1 H1 g1 o1 => ⟨by rw [o1.pus.length]; exact Nat.le_of_lt (small1000 hl), fun p hp =>
    k _ _ _ (g1.trans (Gr.new g1.fh hp)) (Rp.lst upd_same (RpAll.mono (same_upd (g1.fh.free hp)) _ _ o1.pus))⟩⟩
end
end GY
namespace GY
open PySem PySem.Spec PyProof.Rows L2

section
variable {F H F' H' : Hp} {p : Addr} {o : HO}
/-- a new object that is not frozen changes -/
theorem Gr.mut (g : Gr F H F' H') (h : H p = none) (hf : F' p = none) : Gr F H F' (upd H' p o) :=
  ⟨g.f, fun b u e => by rw [upd_ne (ne_of_none e h)]; exact g.h b u e, fun b u e => by rw [upd_ne (ne_of_none e hf)]; exact g.fh b u e, g.nw⟩
/-- a new object freezes -/
theorem Gr.freeze (g : Gr F H F' H') (h : H p = none) (hf : F' p = none) (ho : H' p = some o) : Gr F H (upd F' p o) H' :=
  ⟨g.f.trans (same_freeze g.fh ho hf).1, g.h, (same_freeze g.fh ho hf).2, fun b e n => by
    obtain ⟨o', e', t⟩ := n
    rw [upd_ne (ne_of_none e' h)]
    exact g.nw b e ⟨o', e', t⟩⟩
end
section
variable {X : Cx} {e a b : Expr} {pos : Pos} {B : Bs} {ρ : List Sl} {s s1 s2 : Sl} {d : PyData}
/-- a new list, frozen at once -/
theorem dfz {ds : List PyData} (h : PE X e (tN X.w B ρ (.ol ds))) : PE X e (tV X.w B ρ (.pu (.list ds))) :=
  weakE h fun σ H Q ⟨F, a, k⟩ => ⟨F, a, fun v F1 H1 g ⟨p, xs, ev, hf, ho, r⟩ n => by
    subst ev
    have hp : H p = none := n p rfl rfl
    exact k _ _ H1 (g.freeze hp hf ho) (Rp.lst upd_same (RpAll.mono (same_upd hf) _ _ r))⟩

/-! ## what is walked -/
structure Yld (F0 : Hp) (J : It) (ds : List PyData) : Prop where
  go : ∀ (i : Nat) (F H : Hp), Same F0 F → Same F H → i < ds.length → J.go i H
  stop : ∀ (F H : Hp), Same F0 F → Same F H → J.stop ds.length H
  yld : ∀ (i : Nat) (F H : Hp) (x : V) (H' : Hp) (d : PyData), Same F0 F → Same F H → ds[i]? = some d → J.yld i H x H' → ∃ F', Gr F H F' H' ∧ Rp F' x d
def tI (w : World) (B : Bs) (ρ : List Sl) (ds : List PyData) : TI := fun σ H R => ∃ F, AS w B ρ F σ H ∧ ∀ J F' H', Gr F H F' H' → Yld F' J ds → R J H'
theorem yld_list {K : PySem.W.Frag} {F : Hp} {a : Addr} {xs : List V} {ds : List PyData} (h : F a = some (.lst xs)) (r : RpAll F xs ds) : Yld F (Itl K a) ds where
  go := fun i F1 H1 e f hi => ⟨xs, xs[i]'(by rw [r.length]; exact hi), SqL.of (f _ _ (e _ _ h)), by simp⟩
  stop := fun F1 H1 e f => ⟨xs, SqL.of (f _ _ (e _ _ h)), by rw [r.length]; exact Nat.le_refl _⟩
  yld := fun i F1 H1 x H' d e f hd ⟨e1, y⟩ => by
    subst e1
    have hx := y xs (SqL.of (f _ _ (e _ _ h)))
    obtain ⟨d', h1, h2⟩ := r.get hx
    rw [hd] at h1
    cases h1
    exact ⟨F1, Gr.refl f, Rp.mono e _ _ h2⟩
theorem yld_tup {K : PySem.W.Frag} {F : Hp} {a : Addr} {xs : List V} {ds : List PyData} (h : Rd F a (.tup xs)) (r : RpAll F xs ds) : Yld F (Itt K a) ds where
  go := fun i F1 H1 e f hi => ⟨xs, xs[i]'(by rw [r.length]; exact hi), sqt_rd (rdm f (rdm e h)), by simp⟩
  stop := fun F1 H1 e f => ⟨xs, sqt_rd (rdm f (rdm e h)), by rw [r.length]; exact Nat.le_refl _⟩
  yld := fun i F1 H1 x H' d e f hd ⟨e1, y⟩ => by
    subst e1
    have hx := y xs (sqt_rd (rdm f (rdm e h)))
    obtain ⟨d', h1, h2⟩ := r.get hx
    rw [hd] at h1
    cases h1
    exact ⟨F1, Gr.refl f, Rp.mono e _ _ h2⟩
/-- over a datum that is a list or a tuple -/
theorem iseq {tg : Expr} {ds : List PyData} (h : PE X e (tV X.w B ρ (.pu d))) (hd : isSeq d ds := by first | exact Or.inl rfl | exact Or.inr rfl) : PI X tg e (tI X.w B ρ ds) := by
  rcases hd with rfl | rfl
  · exact weakI (pi_list h) fun σ H R ⟨F, a, k⟩ => ⟨F, a, fun v F1 H1 g o => by
      obtain ⟨p, xs, ev, hp, r⟩ := Rp.list_inv o
      exact ⟨p, ev, ⟨xs, SqL.of (g.fh _ _ hp)⟩, k _ F1 H1 g (yld_list hp r)⟩⟩
  · exact weakI (pi_tup h) fun σ H R ⟨F, a, k⟩ => ⟨F, a, fun v F1 H1 g o => by
      obtain ⟨p, xs, ev, hp, r⟩ := Rp.tuple_inv o
      exact ⟨p, ev, ⟨xs, sqt_rd (rdm g.fh hp)⟩, k _ F1 H1 g (yld_tup hp r)⟩⟩
/-- lo, lo + 1, .. -/
def rng (lo : Int) (n : Nat) : List Int := (List.range n).map fun (i : Nat) => lo + (i : Int)
theorem rng_length (lo : Int) (n : Nat) : (rng lo n).length = n := by simp [rng]
theorem rng_get {lo : Int} {n i : Nat} {x : Int} (h : (rng lo n)[i]? = some x) : x = lo + (i : Int) := by
  unfold rng at h
  rw [List.getElem?_map] at h
  by_cases hi : i < n
  · rw [List.getElem?_range hi] at h
    exact (Option.some.inj h).symm
  · rw [List.getElem?_eq_none (by simp; omega)] at h
    cases h
theorem yld_range {F : Hp} {lo : Int} {n : Nat} : Yld F (Itr lo n) ((rng lo n).map .int) where
  go := fun i F1 H1 e f hi => by
    have h : i < n := by simpa [rng_length] using hi
    exact h
  stop := fun F1 H1 e f => by
    have h : n ≤ ((rng lo n).map PyData.int).length := by simp [rng_length]
    exact h
  yld := fun i F1 H1 x H' d e f hd ⟨e1, e2⟩ => by
    subst e1 e2
    rw [List.getElem?_map] at hd
    cases h : (rng lo n)[i]? with
    | none => rw [h] at hd; cases hd
    | some y =>
      rw [h] at hd
      cases hd
      rw [rng_get h]
      exact ⟨F1, Gr.refl f, .int _⟩
theorem irange1 {tg : Expr} {p : Pos} {n : Int} (hm : X.mg "range" = none) (ha : PA X [a] (tA X.w B ρ [.pu (.int n)])) (hn : -1000 ≤ n ∧ n ≤ 1000) (hg : Gl X "range" := by rfl) (hs : starEach [a] X.env = [(false, eval a X.env)] := by rfl) :
    PI X tg (.Call (.Name "range" p) [a] [] pos) (tI X.w B ρ ((rng 0 n.toNat).map .int)) :=
  weakI (pi_range1 hg hm ha hs) fun σ H R ⟨F, a, k⟩ => ⟨F, a, fun vs F1 H1 g o => by
    cases o with
    | cons o1 o2 =>
      cases o2
      refine ⟨n, by rw [Rp.int_inv o1], by omega, by omega, k _ F1 H1 g yld_range⟩⟩
theorem irange2 {tg : Expr} {p : Pos} {m n : Int} (hm : X.mg "range" = none) (ha : PA X [a, b] (tA X.w B ρ [.pu (.int m), .pu (.int n)])) (hn : (-1000 ≤ m ∧ m ≤ 1000) ∧ -1000 ≤ n ∧ n ≤ 1000) (hg : Gl X "range" := by rfl)
    (hs : starEach [a, b] X.env = [(false, eval a X.env), (false, eval b X.env)] := by rfl) (hs2 : starEach [b] X.env = [(false, eval b X.env)] := by rfl) :
    PI X tg (.Call (.Name "range" p) [a, b] [] pos) (tI X.w B ρ ((rng m (n - m).toNat).map .int)) :=
  weakI (pi_range2 hg hm ha hs hs2) fun σ H R ⟨F, a, k⟩ => ⟨F, a, fun vs F1 H1 g o => by
    cases o with
    | cons o1 o2 =>
      cases o2 with
      | cons o2 o3 =>
        cases o3
        refine ⟨m, n, by rw [Rp.int_inv o1, Rp.int_inv o2], by omega, k _ F1 H1 g yld_range⟩⟩
/-- the same walk, told otherwise -/
theorem ieq {tg : Expr} {ds es : List PyData} (h : PI X tg e (tI X.w B ρ ds)) (q : ds = es) : PI X tg e (tI X.w B ρ es) := by rw [← q]; exact h

/-! ## targets -/
theorem wipe_get (σ : L2.St) (i : Nat) : ∀ vs : List Nat, (wipe σ vs)[i]? = if i ∈ vs ∧ i < σ.length then some none else σ[i]?
  | [] => by simp [wipe]
  | v :: vs => by
    have ih := wipe_get σ i vs
    unfold wipe
    by_cases hv : v = i
    · subst hv
      by_cases hl : v < σ.length
      · rw [List.getElem?_set_self (by rw [wipe_length]; exact hl), if_pos ⟨List.mem_cons_self, hl⟩]
      · rw [List.getElem?_eq_none (by simp [wipe_length]; omega), if_neg (fun z => hl z.2), List.getElem?_eq_none (by omega)]
    · rw [List.getElem?_set_ne hv, ih]
      by_cases hm : i ∈ vs ∧ i < σ.length
      · rw [if_pos hm, if_pos ⟨List.mem_cons_of_mem _ hm.1, hm.2⟩]
      · rw [if_neg hm, if_neg]
        rintro ⟨h1, h2⟩
        rcases List.mem_cons.mp h1 with h | h
        · exact hv h.symm
        · exact hm ⟨h, h2⟩
theorem wipe_set {σ : L2.St} {j : Nat} {v : Option V} {vs : List Nat} (hj : j ∈ vs) : wipe (σ.set j v) vs = wipe σ vs := by
  refine List.ext_getElem? fun i => ?_
  rw [wipe_get, wipe_get, List.length_set]
  by_cases h : i ∈ vs ∧ i < σ.length
  · rw [if_pos h, if_pos h]
  · rw [if_neg h, if_neg h]
    by_cases hi : j = i
    · subst hi
      have hl : ¬ j < σ.length := fun z => h ⟨hj, z⟩
      rw [List.getElem?_eq_none (by simp; omega), List.getElem?_eq_none (by omega)]
    · rw [List.getElem?_set_ne hi]
theorem wipe_wipe {σ : L2.St} {vs : List Nat} : wipe (wipe σ vs) vs = wipe σ vs := by
  refine List.ext_getElem? fun i => ?_
  rw [wipe_get, wipe_get, wipe_length]
  by_cases h : i ∈ vs ∧ i < σ.length
  · rw [if_pos h]; exact (if_pos h).symm
  · rw [if_neg h]
/-- a target's store: of a datum, from the slots ρ to ρ' (those of js change) -/
def Bd (w : World) (B : Bs) (g : TG) (d : PyData) (ρ ρ' : List Sl) (js : List Nat) : Prop :=
  ∀ (v : V) (F H : Hp) (σ : L2.St) (Q : L2.St → Hp → Prop), AS w B ρ F σ H → Rp F v d → (∀ σ', AS w B ρ' F σ' H → (∀ vs : List Nat, (∀ j ∈ js, j ∈ vs) → wipe σ' vs = wipe σ vs) → Q σ' H) → g v σ H Q
theorem bd1 {w : World} {d : PyData} (j : Nat) : Bd w B (gName j) d ρ (ρ.set j (.pu d)) [j] := fun v F H σ Q a o k =>
  k _ (a.set_pu o) fun vs hv => wipe_set (hv j (by simp))
theorem bd2 {w : World} {K : PySem.W.Frag} {d1 d2 : PyData} (j k : Nat) : Bd w B (gTup K 2 (gCons (gName j) (gCons (gName k) gNil))) (.tuple [d1, d2]) ρ ((ρ.set j (.pu d1)).set k (.pu d2)) [j, k] := fun v F H σ Q a o q => by
  obtain ⟨p, xs, ev, hp, r⟩ := o.tuple_inv
  cases r with
  | cons r1 r2 =>
    cases r2 with
    | cons r2 r3 =>
      cases r3
      refine ⟨p, _, ev, sqt_rd (rdm a.fh hp), rfl, _, _, rfl, _, _, rfl, rfl, q _ ((a.set_pu r1).set_pu r2) fun vs hv => ?_⟩
      rw [wipe_set (hv k (by simp)), wipe_set (hv j (by simp))]
/-- the target's derivation: two names -/
theorem pg2 {j k : Nat} {x y : Str} {px py : Pos} {kk : Nat} (hc : X.calm = true) (hN : X.N.Nodup) (hj : X.N[j]? = some x) (hk : X.N[k]? = some y) (hx : Loc X.env.scope x) (hy : Loc X.env.scope y)
    (fx : X.fn x = true ∨ X.env.scope.names.lookup x = some .local := by first | exact .inl rfl | exact .inr rfl) (fy : X.fn y = true ∨ X.env.scope.names.lookup y = some .local := by first | exact .inl rfl | exact .inr rfl)
    (hi : ∀ {t : TGs}, PGs X [.Name x px, .Name y py] t → PG X (.Tuple [.Name x px, .Name y py] kk pos) (gTup X.K 2 t)) : PG X (.Tuple [.Name x px, .Name y py] kk pos) (gTup X.K 2 (gCons (gName j) (gCons (gName k) gNil))) :=
  hi (pgs_cons (pg_name hN hj hx fx) (pgs_cons (pg_name hN hk hy fy) pgs_nil))

/-! ## list comprehensions -/
/-- the reading of a comprehension over data -/
theorem lc_read {w : World} {α : Type} {emb : α → PyData} {xs : List α} {f : α → Bool} {h : α → PyData} {ρb : α → List Sl} {js vs : List Nat} {g : TG} (hjs : ∀ j ∈ js, j ∈ vs)
    (hb : ∀ x ∈ xs, Bd w B g (emb x) (wipeR ρ vs) (ρb x) js) (hl : xs.length ≤ 1000) {σ : L2.St} {H : Hp} {Q : VK} (q : tN w B ρ (.ol ((xs.filter f).map h)) σ H Q) :
    tLc (tI w B ρ (xs.map emb)) g (fun σ H Q => ∃ x, x ∈ xs ∧ tT w B (ρb x) (f x) σ H Q) (fun σ H Q => ∃ x, (x ∈ xs ∧ f x = true) ∧ tV w B (ρb x) (.pu (h x)) σ H Q) vs σ H Q := by
  obtain ⟨F, a, k⟩ := q
  refine ⟨F, a, fun J F1 H1 g1 yl D hD => ?_⟩
  have a1 := a.grow g1
  have fD : F1 D = none := g1.fh.free hD
  let Pv : Nat → Hp → Prop := fun i H' => ∃ F' acc, Gr F1 H1 F' H' ∧ F' D = none ∧ H' D = some (.lst acc) ∧ RpAll F' acc ((((xs.take i).filter f).map h))
  refine ⟨fun i m H' => m = xs.length - i ∧ i ≤ xs.length ∧ Pv i H', ⟨xs.length, by simp, Nat.zero_le _, F1, [], Gr.raw g1.fh hD, fD, upd_same, .nil⟩, ?_⟩
  rintro i m H' ⟨rfl, hi', F2, acc, g2, f2, hD2, r2⟩
  by_cases hlt : i < xs.length
  · have hix : xs[i]? = some xs[i] := List.getElem?_eq_getElem hlt
    have hm : xs[i] ∈ xs := List.getElem_mem hlt
    have hd : (xs.map emb)[i]? = some (emb xs[i]) := by rw [List.getElem?_map, hix]; rfl
    refine .inr ⟨yl.go i F2 H' g2.f g2.fh (by simpa using hlt), Pv (i + 1), fun H3 p3 => ⟨xs.length - (i + 1), by omega, rfl, hlt, p3⟩, fun v H3 y => ?_⟩
    obtain ⟨F3, g3, o3⟩ := yl.yld i F2 H' v H3 _ g2.f g2.fh hd y
    have a3 : AS w B (wipeR ρ vs) F3 (wipe σ vs) H3 := ((a1.grow g2).grow g3).wipe _
    refine hb xs[i] hm v F3 H3 _ _ a3 o3 fun σ' a3' hw => ⟨?_, xs[i], hm, F3, a3', fun F4 H4 g4 => ?_⟩
    · rw [hw _ hjs, wipe_wipe]
    · have nD3 : F3 D = none := g3.nw D f2 ⟨_, hD2, fun _ z => by first | cases z | (unfold SetO at z; cases z)⟩
      have hD3 : H3 D = some (.lst acc) := g3.h D _ hD2
      have nD4 : F4 D = none := g4.nw D nD3 ⟨_, hD3, fun _ z => by first | cases z | (unfold SetO at z; cases z)⟩
      have hD4 : H4 D = some (.lst acc) := g4.h D _ hD3
      have g24 := g2.trans (g3.trans g4)
      have tk : xs.take (i + 1) = xs.take i ++ [xs[i]] := by rw [List.take_add_one, hix]; rfl
      cases hf : f xs[i] with
      | false =>
        refine ⟨F4, acc, g24, nD4, hD4, ?_⟩
        rw [tk, List.filter_append, List.filter_cons, hf, if_neg Bool.false_ne_true, List.filter_nil, List.append_nil]
        exact RpAll.mono (g3.f.trans g4.f) _ _ r2
      | true =>
        refine ⟨xs[i], ⟨hm, hf⟩, F4, a3'.grow g4, fun y F5 H5 g5 o5 => ?_⟩
        have nD5 : F5 D = none := g5.nw D nD4 ⟨_, hD4, fun _ z => by first | cases z | (unfold SetO at z; cases z)⟩
        have hD5 : H5 D = some (.lst acc) := g5.h D _ hD4
        refine ⟨acc, hD5, ?_, F5, acc ++ [y], (g24.trans g5).mut hD nD5, nD5, upd_same, ?_⟩
        · have l1 := r2.length
          have l2 := List.length_filter_le f (xs.take i)
          rw [List.length_map] at l1
          rw [List.length_take] at l2
          have : acc.length ≤ 1000 := by omega
          exact small1000 this
        · rw [tk, List.filter_append, List.filter_cons, hf, if_pos rfl, List.filter_nil, List.map_append]
          exact (RpAll.mono (g3.f.trans (g4.f.trans g5.f)) _ _ r2).append (.cons o5 .nil)
  · have ei : i = xs.length := by omega
    subst ei
    have hst := yl.stop F2 H' g2.f g2.fh
    rw [List.length_map] at hst
    refine .inl ⟨hst, k (.ref D) F2 H' (g1.trans g2) ⟨D, acc, rfl, f2, hD2, ?_⟩ fun c _ ec => ?_⟩
    · rw [List.take_length] at r2
      exact r2
    · have ec : V.ref D = V.ref c := ec
      injection ec with ec
      subst ec
      exact g1.h.free hD
theorem dlc {α : Type} (emb : α → PyData) {xs : List α} {f : α → Bool} {h : α → PyData} {ρb : α → List Sl} {js : List Nat} {elt tg iter : Expr} {ifs : List Expr} {scope : Scope} {own : List (Str × Nat)} {g : TG}
    (hi : PI X tg iter (tI X.w B ρ (xs.map emb))) (hc : X.calm = true) (hN : X.N.Nodup) (ok : BlkOk X.N X.env.scope scope own)
    (hg : ∀ (s : Shared) (H : Hp) (C : Addr) (cl : List (Str × Addr)) (fp : List Addr), PG (X.blk s H scope (compEnvC scope cl C X.env) fp) tg g) (hjs : ∀ j ∈ js, j ∈ own.map (·.2))
    (hb : ∀ x ∈ xs, Bd X.w B g (emb x) (wipeR ρ (own.map (·.2))) (ρb x) js)
    (ht : ∀ (s : Shared) (H : Hp) (C : Addr) (cl : List (Str × Addr)) (fp : List Addr), ∀ x ∈ xs, PTs (X.blk s H scope (compEnvC scope cl C X.env) fp) ifs (tT X.w B (ρb x) (f x)))
    (he : ∀ (s : Shared) (H : Hp) (C : Addr) (cl : List (Str × Addr)) (fp : List Addr), ∀ x ∈ xs, f x = true → PE (X.blk s H scope (compEnvC scope cl C X.env) fp) elt (tV X.w B (ρb x) (.pu (h x))))
    (hl : xs.length ≤ 1000) (hs : ∀ x, foldedSetIterable iter X.env x = pure x := by intro _; rfl) :
    PE X (.ListComp elt [⟨tg, iter, ifs, 0⟩] scope pos) (tN X.w B ρ (.ol ((xs.filter f).map h))) :=
  weakE (pe_lc (tt := fun σ H Q => ∃ x, x ∈ xs ∧ tT X.w B (ρb x) (f x) σ H Q) (te := fun σ H Q => ∃ x, (x ∈ xs ∧ f x = true) ∧ tV X.w B (ρb x) (.pu (h x)) σ H Q) hc hN hi ok hg
    (fun s H C cl fp => anyTs (fun x hx => ht s H C cl fp x hx)) (fun s H C cl fp => anyE (fun x hx => he s H C cl fp x hx.1 hx.2)) hs) fun σ H Q q => lc_read hjs hb hl q

/-! ## calls of defs -/
/-- what a def that raises nothing promises: the arguments' kinds, then the answer's kind -/
def spS (w : World) (Spec : List Sl → Sl → Prop) : Sp := fun vs H Q _ => ∃ F ss s, Same F H ∧ VsOk w F H vs ss ∧ Spec ss s ∧ ∀ v F' H', Gr F H F' H' → VOk w F' H' v s → (∀ a, s.own = true → v = .ref a → H a = none) → Q v H'
/-- .. that may raise the error of the class at C -/
def spX (w : World) (C : Addr) (Spec : List Sl → Sl → Prop) (Rs : List Sl → Prop) : Sp := fun vs H Q E => ∃ F ss, Same F H ∧ VsOk w F H vs ss ∧
  ((∃ s, Spec ss s ∧ ∀ v F' H', Gr F H F' H' → VOk w F' H' v s → (∀ a, s.own = true → v = .ref a → H a = none) → Q v H') ∨ (Rs ss ∧ ∀ H', Same H H' → E (.ref C) none H'))
/-- a def of the text that keeps a promise -/
def Cal (P : Program) (w : World) (K : PySem.W.Frag) (mg : Str → Option Value) (base : Heap) (CX : CXT) (k : Nat) (x : Str) (ps : List Str) (sp : Sp) : Prop :=
  ∃ f fd, mg x = some (.ref f) ∧ PySem.W.keepIn K (.ref f) = true ∧ Binds K fd ps [] ∧ FnOk P w K mg base CX k f fd ps sp
theorem Cal.mono {P : Program} {w : World} {K : PySem.W.Frag} {mg : Str → Option Value} {base : Heap} {CX : CXT} {j k : Nat} {x : Str} {ps : List Str} {sp : Sp} (h : Cal P w K mg base CX j x ps sp) (l : j ≤ k) : Cal P w K mg base CX k x ps sp := by
  obtain ⟨f, fd, h1, h2, h3, h4⟩ := h
  exact ⟨f, fd, h1, h2, h3, h4.mono l⟩
section
variable {CX : CXT} {k : Nat} {ps : List Str} {Spec : List Sl → Sl → Prop} {Rs : List Sl → Prop} {x : Str} {p : Pos} {es : List Expr} {ss : List Sl} {C : Addr}
theorem dcall (G : Cal X.prog X.w X.K X.mg X.base CX0 k x ps (spS X.w Spec)) (hr : Room k X.A)
    (ha : PA X (e :: es) (tA X.w B ρ ss)) (sp : Spec ss s) (hg : Gl X x := by rfl) (hdb : (x == ("__debug__" : Str)) = false := by decide) (he : starEach (e :: es) X.env = (false, eval e X.env) :: starEach es X.env := by rfl)
    (hpl : (backTo pos (starEach es X.env)).any (·.1) = false := by rfl) : PE X (.Call (.Name x p) (e :: es) [] pos) (tN X.w B ρ s) := by
  obtain ⟨f, fd, hm, hk, hb, G⟩ := G
  exact weakE (pe_call G hr hg hm hk hb .nil pass0 ha hdb he hpl) fun σ H Q ⟨F, a, q⟩ => ⟨F, a, fun vs F1 H1 g o => by
    show spS X.w Spec (vs ++ []) H1 Q E0
    rw [List.append_nil]
    exact ⟨F1, ss, s, g.fh, o, sp, fun v F2 H2 g2 o2 n => q v F2 H2 (g.trans g2) o2 fun c oc ev => g.h.free (n c oc ev)⟩⟩
/-- without arguments -/
theorem dcall0 (G : Cal X.prog X.w X.K X.mg X.base CX0 k x ps (spS X.w Spec)) (hr : Room k X.A) (sp : Spec [] s) (hg : Gl X x := by rfl) (hdb : (x == ("__debug__" : Str)) = false := by decide) : PE X (.Call (.Name x p) [] [] pos) (tN X.w B ρ s) := by
  obtain ⟨f, fd, hm, hk, hb, G⟩ := G
  exact weakE (pe_call0 G hr hg hm hk hb .nil pass0 hdb) fun σ H Q ⟨F, a, q⟩ => by
    show spS X.w Spec ([] ++ []) H Q E0
    exact ⟨F, [], s, a.fh, .nil, sp, fun v F2 H2 g2 o2 n => q v F2 H2 g2 o2 n⟩
/-- a def that may raise, where it does not -/
theorem dcallX (G : Cal X.prog X.w X.K X.mg X.base (L2.CX X.prog X.w) k x ps (spX X.w C Spec Rs)) (hr : Room k X.A)
    (ha : PA X (e :: es) (tA X.w B ρ ss)) (sp : Spec ss s) (hg : Gl X x := by rfl) (hdb : (x == ("__debug__" : Str)) = false := by decide) (he : starEach (e :: es) X.env = (false, eval e X.env) :: starEach es X.env := by rfl)
    (hpl : (backTo pos (starEach es X.env)).any (·.1) = false := by rfl) : PE X (.Call (.Name x p) (e :: es) [] pos) (tN X.w B ρ s) := by
  obtain ⟨f, fd, hm, hk, hb, G⟩ := G
  exact weakE (pe_call G hr hg hm hk hb .nil passL ha hdb he hpl) fun σ H Q ⟨F, a, q⟩ => ⟨F, a, fun vs F1 H1 g o => by
    show spX X.w C Spec Rs (vs ++ []) H1 Q E0
    rw [List.append_nil]
    exact ⟨F1, ss, g.fh, o, .inl ⟨s, sp, fun v F2 H2 g2 o2 n => q v F2 H2 (g.trans g2) o2 fun c oc ev => g.h.free (n c oc ev)⟩⟩⟩
end
/-! ## calls of built-ins by values -/
def DCall (w : World) (r : List V → Hp → VK → Prop) (ss : List Sl) (s : Sl) : Prop := ∀ (vs : List V) (F H : Hp) (Q : VK), Same F H → VsOk w F H vs ss → (∀ v F' H', Gr F H F' H' → VOk w F' H' v s → (∀ a, s.own = true → v = .ref a → H a = none) → Q v H') → r vs H Q
section
variable {x : Str} {p : Pos} {es : List Expr} {ss : List Sl} {id : String} {T : String} {r : List V → Hp → VK → Prop}
theorem dblt (hc : CallR X (.builtin id) r) (hm : X.mg x = none) (hv : bootBuiltins x = some (.builtin id)) (ha : PA X (e :: es) (tA X.w B ρ ss)) (hd : DCall X.w r ss s) (hg : Gl X x := by rfl) (hn : x ≠ "__name__" := by decide) (hdb : (x == ("__debug__" : Str)) = false := by decide)
    (he : starEach (e :: es) X.env = (false, eval e X.env) :: starEach es X.env := by rfl) (hpl : (backTo pos (starEach es X.env)).any (·.1) = false := by rfl) : PE X (.Call (.Name x p) (e :: es) [] pos) (tN X.w B ρ s) :=
  weakE (pe_callB hc hg hm hv ha hn hdb he hpl) fun σ H Q ⟨F, a, q⟩ => ⟨F, a, fun vs F1 H1 g o => hd vs F1 H1 Q g.fh o fun v F2 H2 g2 o2 n => q v F2 H2 (g.trans g2) o2 fun c oc ev => g.h.free (n c oc ev)⟩
theorem dbty (hc : CallR X (.type T) r) (hm : X.mg x = none) (hv : bootBuiltins x = some (.type T)) (ha : PA X (e :: es) (tA X.w B ρ ss)) (hd : DCall X.w r ss s) (hg : Gl X x := by rfl) (hn : x ≠ "__name__" := by decide) (hdb : (x == ("__debug__" : Str)) = false := by decide)
    (he : starEach (e :: es) X.env = (false, eval e X.env) :: starEach es X.env := by rfl) (hpl : (backTo pos (starEach es X.env)).any (·.1) = false := by rfl) : PE X (.Call (.Name x p) (e :: es) [] pos) (tN X.w B ρ s) :=
  weakE (pe_callTy hc hg hm hv ha hn hdb he hpl) fun σ H Q ⟨F, a, q⟩ => ⟨F, a, fun vs F1 H1 g o => hd vs F1 H1 Q g.fh o fun v F2 H2 g2 o2 n => q v F2 H2 (g.trans g2) o2 fun c oc ev => g.h.free (n c oc ev)⟩
end
end
end GY
namespace GY
open PySem PySem.Spec PyProof.Rows L2

/-! ## statements: from the slots ρ to slots of N, or a return of a kind (and of slots) of R -/
def tH (w : World) (B : Bs) (ρ : List Sl) (N : List Sl → Prop) (R : Sl → List Sl → Prop) : TS := fun D σ H => ∃ F, AS w B ρ F σ H ∧ (∀ F' ρ' σ' H', Same F F' → N ρ' → AS w B ρ' F' σ' H' → D.nx σ' H') ∧
  ∀ F' s v ρ' σ' H', R s ρ' → AS w B ρ' F' σ' H' → VOk w F' H' v s → (∀ a, s.own = true → v = .ref a → B.2 a = none) → D.rt v H'
section
variable {X : Cx} {e a b : Expr} {pos : Pos} {B : Bs} {ρ ρ' : List Sl} {s s1 s2 : Sl} {d : PyData} {N M : List Sl → Prop} {R : Sl → List Sl → Prop} {st : Stmt} {rest sts : List Stmt}
theorem hs_nil : PSs X [] (tH X.w B ρ (· = ρ) R) := weakSs pss_nil fun D σ H ⟨F, a, k, _⟩ => k F ρ σ H (Same.refl _) rfl a
theorem hs_cons (h1 : PS X st (tH X.w B ρ M R)) (h2 : ∀ ρ', M ρ' → PSs X rest (tH X.w B ρ' N R)) : PSs X (st :: rest) (tH X.w B ρ N R) :=
  weakSs (pss_cons h1 (anySs (p := M) (t := fun ρ' => tH X.w B ρ' N R) h2)) fun D σ H ⟨F, a, k, r⟩ => by
    refine ⟨F, a, fun F' ρ' σ' H' e m a' => ⟨ρ', m, F', a', fun F2 ρ2 σ2 H2 e2 n a2 => k F2 ρ2 σ2 H2 (e.trans e2) n a2, r⟩, r⟩
theorem hs_then (h1 : PS X st (tH X.w B ρ (· = ρ') R)) (h2 : PSs X rest (tH X.w B ρ' N R)) : PSs X (st :: rest) (tH X.w B ρ N R) :=
  hs_cons h1 fun _ e => by rw [e]; exact h2
theorem hs_one (h : PS X st (tH X.w B ρ N R)) : PSs X [st] (tH X.w B ρ N R) := weakSs (pss_one h) fun _ _ _ q => q
theorem hs_post (h : PS X st (tH X.w B ρ M R)) (i : ∀ ρ', M ρ' → N ρ') : PS X st (tH X.w B ρ N R) := weakS h fun D σ H ⟨F, a, k, r⟩ => ⟨F, a, fun F' ρ' σ' H' e m a' => k F' ρ' σ' H' e (i _ m) a', r⟩
theorem hss_post (h : PSs X sts (tH X.w B ρ M R)) (i : ∀ ρ', M ρ' → N ρ') : PSs X sts (tH X.w B ρ N R) := weakSs h fun D σ H ⟨F, a, k, r⟩ => ⟨F, a, fun F' ρ' σ' H' e m a' => k F' ρ' σ' H' e (i _ m) a', r⟩
/-- a change of what is known of the slots -/
theorem hss_pre (h : PSs X sts (tH X.w B ρ' N R)) (i : ∀ F σ H, AS X.w B ρ F σ H → ∃ F', Same F F' ∧ AS X.w B ρ' F' σ H) : PSs X sts (tH X.w B ρ N R) := weakSs h fun D σ H ⟨F, a, k, r⟩ => by
  obtain ⟨F', e, a'⟩ := i F σ H a
  exact ⟨F', a', fun F2 ρ2 σ2 H2 e2 n a2 => k F2 ρ2 σ2 H2 (e.trans e2) n a2, r⟩
theorem hs_pre (h : PS X st (tH X.w B ρ' N R)) (i : ∀ F σ H, AS X.w B ρ F σ H → ∃ F', Same F F' ∧ AS X.w B ρ' F' σ H) : PS X st (tH X.w B ρ N R) := weakS h fun D σ H ⟨F, a, k, r⟩ => by
  obtain ⟨F', e, a'⟩ := i F σ H a
  exact ⟨F', a', fun F2 ρ2 σ2 H2 e2 n a2 => k F2 ρ2 σ2 H2 (e.trans e2) n a2, r⟩
/-- an own list freezes for good -/
theorem AS.freezeL {w : World} {F H : Hp} {σ : L2.St} (a : AS w B ρ F σ H) {i : Nat} {ds : List PyData} (hi : ρ[i]? = some (.ol ds)) : ∃ F', Same F F' ∧ AS w B (ρ.set i (.pu (.list ds))) F' σ H := by
  obtain ⟨v, hv, p, xs, ev, fp, hp, r⟩ := a.ok i _ hi (fun z => by cases z)
  subst ev
  obtain ⟨e1, e2⟩ := same_freeze a.fh hp fp
  have hb : B.2 p = none := a.nw i _ p hi rfl hv
  have g : Gr B.1 B.2 (upd F p (.lst xs)) H := a.gr.freeze hb fp hp
  refine ⟨_, e1, ?_⟩
  have look : ∀ (j : Nat) (t : Sl), (ρ.set i (.pu (.list ds)))[j]? = some t → (j = i ∧ t = .pu (.list ds)) ∨ (j ≠ i ∧ ρ[j]? = some t) := fun j t e => by
    by_cases hj : i = j
    · subst hj
      have hl : i < ρ.length := (List.getElem?_eq_some_iff.mp hi).1
      rw [List.getElem?_set_self hl] at e
      exact .inl ⟨rfl, (Option.some.inj e).symm⟩
    · rw [List.getElem?_set_ne hj] at e
      exact .inr ⟨fun z => hj z.symm, e⟩
  refine ⟨g, by simp [a.len], fun j t e n => ?_, fun j t c e o q => ?_, fun j k t u c hjk ej ek oj ok' q => ?_⟩
  · rcases look j t e with ⟨rfl, rfl⟩ | ⟨hj, e'⟩
    · exact ⟨_, hv, Rp.lst upd_same (RpAll.mono e1 _ _ r)⟩
    · obtain ⟨v', h1, h2⟩ := a.ok j t e' n
      refine ⟨v', h1, ?_⟩
      have ne : ∀ c, v' = .ref c → t.own = true → c ≠ p := fun c ec o z => by
        subst z ec
        exact a.dj j i t _ c hj e' hi o rfl h1 hv
      cases t with
      | un => trivial
      | pu d' => exact Rp.mono e1 _ _ h2
      | ol es =>
        obtain ⟨c, ys, ec, fc, hc, rc⟩ := h2
        exact ⟨c, ys, ec, by rw [upd_ne (ne c ec rfl)]; exact fc, hc, RpAll.mono e1 _ _ rc⟩
      | od es =>
        obtain ⟨c, ys, ec, fc, hc, rc⟩ := h2
        exact ⟨c, ys, ec, by rw [upd_ne (ne c ec rfl)]; exact fc, hc, rc.mono e1⟩
      | kt k => obtain ⟨c, ec, fc⟩ := h2; exact ⟨c, ec, e1 _ _ fc⟩
      | ad u => exact h2
      | fd es =>
        obtain ⟨c, ys, ec, fc, rc⟩ := h2
        exact ⟨c, ys, ec, e1 _ _ fc, rc.mono e1⟩
      | ss S n => obtain ⟨c, ec, fc⟩ := h2; exact ⟨c, ec, e1 _ _ fc⟩
      | ur c m =>
        obtain ⟨x, y, z, ec, fc, hc⟩ := h2
        exact ⟨x, y, z, ec, by rw [upd_ne (ne c ec rfl)]; exact fc, hc⟩
      | uv c x y z =>
        obtain ⟨ec, fc, hc⟩ := h2
        exact ⟨ec, by rw [upd_ne (ne c ec rfl)]; exact fc, hc⟩
  · rcases look j t e with ⟨rfl, rfl⟩ | ⟨hj, e'⟩
    · cases o
    · exact a.nw j t c e' o q
  · rcases look j t ej with ⟨_, rfl⟩ | ⟨_, e'⟩
    · cases oj
    · rcases look k u ek with ⟨_, rfl⟩ | ⟨_, e''⟩
      · cases ok'
      · exact a.dj j k t u c hjk e' e'' oj ok' q
/-- an own object changes -/
theorem AS.mut {w : World} {F H : Hp} {σ : L2.St} (a : AS w B ρ F σ H) {i : Nat} {s s' : Sl} {p : Addr} {o : HO} (hi : ρ[i]? = some s) (os : s.own = true) (os' : s'.own = true) (hv : σ[i]? = some (some (.ref p))) (new : VOk w F (upd H p o) (.ref p) s') :
    AS w B (ρ.set i s') F σ (upd H p o) := by
  have hb : B.2 p = none := a.nw i s p hi os hv
  obtain ⟨v, hv', hok⟩ := a.ok i s hi (fun z => by rw [z] at os; cases os)
  rw [hv] at hv'
  cases hv'
  obtain ⟨q, eq, fq, _⟩ := hok.own_ref os
  cases eq
  have look : ∀ (j : Nat) (t : Sl), (ρ.set i s')[j]? = some t → (j = i ∧ t = s') ∨ (j ≠ i ∧ ρ[j]? = some t) := fun j t e => by
    by_cases hj : i = j
    · subst hj
      have hl : i < ρ.length := (List.getElem?_eq_some_iff.mp hi).1
      rw [List.getElem?_set_self hl] at e
      exact .inl ⟨rfl, (Option.some.inj e).symm⟩
    · rw [List.getElem?_set_ne hj] at e
      exact .inr ⟨fun z => hj z.symm, e⟩
  refine ⟨a.gr.mut hb fq, by simp [a.len], fun j t e n => ?_, fun j t c e o' q => ?_, fun j k t u c hjk ej ek oj ok' q => ?_⟩
  · rcases look j t e with ⟨rfl, rfl⟩ | ⟨hj, e'⟩
    · exact ⟨_, hv, new⟩
    · obtain ⟨v', h1, h2⟩ := a.ok j t e' n
      refine ⟨v', h1, ?_⟩
      have ne : ∀ c, v' = .ref c → t.own = true → c ≠ p := fun c ec o z => by
        subst z ec
        exact a.dj j i t _ c hj e' hi o os h1 hv
      cases t with
      | un => trivial
      | pu d' => exact h2
      | ol es =>
        obtain ⟨c, ys, ec, fc, hc, rc⟩ := h2
        exact ⟨c, ys, ec, fc, by rw [upd_ne (ne c ec rfl)]; exact hc, rc⟩
      | od es =>
        obtain ⟨c, ys, ec, fc, hc, rc⟩ := h2
        exact ⟨c, ys, ec, fc, by rw [upd_ne (ne c ec rfl)]; exact hc, rc⟩
      | fd es => exact h2
      | kt k => exact h2
      | ad u => exact h2
      | ss S n => exact h2
      | ur c m =>
        obtain ⟨x, y, z, ec, fc, hc, hb⟩ := h2
        exact ⟨x, y, z, ec, fc, by rw [upd_ne (ne c ec rfl)]; exact hc, hb⟩
      | uv c x y z =>
        obtain ⟨ec, fc, hc⟩ := h2
        exact ⟨ec, fc, by rw [upd_ne (ne c ec rfl)]; exact hc⟩
  · rcases look j t e with ⟨rfl, rfl⟩ | ⟨hj, e'⟩
    · rw [hv] at q
      cases q
      exact hb
    · exact a.nw j t c e' o' q
  · rcases look j t ej with ⟨hj, rfl⟩ | ⟨hj, e'⟩
    · rcases look k u ek with ⟨hk, rfl⟩ | ⟨hk, e''⟩
      · exact absurd (hj.trans hk.symm) hjk
      · subst hj
        exact a.dj j k s u c hjk hi e'' os ok' q
    · rcases look k u ek with ⟨hk, rfl⟩ | ⟨hk, e''⟩
      · subst hk
        exact a.dj j k t s c hjk e' hi oj os q
      · exact a.dj j k t u c hjk e' e'' oj ok' q
/-- a new own value comes to a slot -/
theorem AS.set_new {w : World} {F H F1 H1 : Hp} {σ : L2.St} (a : AS w B ρ F σ H) (g : Gr F H F1 H1) {i : Nat} {s : Sl} {v : V} (ok : VOk w F1 H1 v s) (n : ∀ b, s.own = true → v = .ref b → H b = none) : AS w B (ρ.set i s) F1 (σ.set i (some v)) H1 :=
  (a.grow g).set ok (fun b o e => a.gr.h.free (n b o e)) fun j t b _ ej o ot e q => by
    obtain ⟨v', h1, h2⟩ := a.ok j t ej (fun z => by rw [z] at ot; cases ot)
    rw [q] at h1
    cases h1
    obtain ⟨c, ec, _, hc⟩ := h2.own_ref ot
    cases ec
    exact hc (n b o e)

/-! ## assignments -/
theorem hs_set (i : Nat) {x : Str} {pos' : Pos} (he : PE X e (tN X.w B ρ s)) (hN : X.N.Nodup) (hi : X.N[i]? = some x := by rfl) (hx : Loc X.env.scope x := by first | exact Or.inl rfl | exact Or.inr rfl)
    (hs : swapsWith e (some (.Name x pos')) pos.line X.env = pure false := by rfl) (hf : X.fn x = true ∨ X.env.scope.names.lookup x = some .local := by first | exact .inl rfl | exact .inr rfl) :
    PS X (.Assign [.Name x pos'] e pos) (tH X.w B ρ (· = ρ.set i s) R) :=
  weakS (ps_set hN hi hx he hs hf) fun D σ H ⟨F, a, k, _⟩ => ⟨F, a, fun v F1 H1 g o n => k F1 _ _ H1 g.f rfl (a.set_new g o n)⟩
theorem hs_aug (i : Nat) {x : Str} {pos' : Pos} {m n : Int} (hρ : ρ[i]? = some (.pu (.int m))) (he : PE X e (tV X.w B ρ (.pu (.int n)))) (hN : X.N.Nodup) (hi : X.N[i]? = some x := by rfl) (hx : Loc X.env.scope x := by first | exact Or.inl rfl | exact Or.inr rfl)
    (hf : X.fn x = true ∨ X.env.scope.names.lookup x = some .local := by first | exact .inl rfl | exact .inr rfl) :
    PS X (.AugAssign (.Name x pos') .Add e pos) (tH X.w B ρ (· = ρ.set i (.pu (.int (m + n)))) R) :=
  weakS (ps_aug hN hi hx he ip_add hf) fun D σ H ⟨F, a, k, _⟩ => by
    obtain ⟨v, h1, h2⟩ := a.pu hρ
    exact ⟨v, h1, F, a, fun u F1 H1 g o => ⟨m, n, Rp.int_inv h2, Rp.int_inv o, k F1 _ _ H1 g.f rfl ((a.grow g).set_pu (.int _))⟩⟩
/-- a, b = e1, e2 -/
theorem hs_par (i j : Nat) {x y : Str} {px py pt : Pos} {kt k2 pt2} (ha : PE X a (tN X.w B ρ s1)) (hb : PE X b (tN X.w B ρ s2)) (hc : X.calm = true) (hN : X.N.Nodup) (hij : i ≠ j := by decide) (hi : X.N[i]? = some x := by rfl) (hj : X.N[j]? = some y := by rfl)
    (hx : X.env.scope.names.lookup x = some .local := by rfl) (hy : X.env.scope.names.lookup y = some .local := by rfl)
    (hw : swappedStores [.Tuple [.Name x px, .Name y py] kt pt] (.Tuple [a, b] k2 pt2) X.env = pure (some [x, y]) := by rfl)
    (hs : swapsWithSole [.Tuple [.Name x px, .Name y py] kt pt] (.Tuple [a, b] k2 pt2) pos.line X.env = pure false := by rfl)
    (h1 : starEach [a, b] X.env = (false, eval a X.env) :: starEach [b] X.env := by rfl) (h2 : starEach [b] X.env = (false, eval b X.env) :: starEach [] X.env := by rfl) :
    PS X (.Assign [.Tuple [.Name x px, .Name y py] kt pt] (.Tuple [a, b] k2 pt2) pos) (tH X.w B ρ (· = (ρ.set i s1).set j s2) R) :=
  weakS (ps_par hc hN hi hj hij hx hy (pa_cons ha (pa_cons hb pa_nil h2) h1) hw hs) fun D σ H ⟨F, a, k, _⟩ => ⟨F, a, fun v F1 H1 g1 o1 n1 => ⟨F1, a.grow g1, fun u F2 H2 g2 o2 n2 => ⟨v, u, rfl,
    k F2 _ _ H2 (g1.f.trans g2.f) rfl ((a.set_new g1 o1 n1).set_new g2 o2 n2)⟩⟩⟩
theorem hs_par3 (i j l : Nat) {c : Expr} {s3 : Sl} {x y z : Str} {px py pz pt : Pos} {kt k2 pt2} (ha : PE X a (tN X.w B ρ s1)) (hb : PE X b (tN X.w B ρ s2)) (hcc : PE X c (tN X.w B ρ s3)) (hc : X.calm = true) (hN : X.N.Nodup)
    (hij : i ≠ j := by decide) (hil : i ≠ l := by decide) (hjl : j ≠ l := by decide) (hi : X.N[i]? = some x := by rfl) (hj : X.N[j]? = some y := by rfl) (hl : X.N[l]? = some z := by rfl)
    (hx : X.env.scope.names.lookup x = some .local := by rfl) (hy : X.env.scope.names.lookup y = some .local := by rfl) (hz : X.env.scope.names.lookup z = some .local := by rfl)
    (hw : swappedStores [.Tuple [.Name x px, .Name y py, .Name z pz] kt pt] (.Tuple [a, b, c] k2 pt2) X.env = pure (some [x, y, z]) := by rfl)
    (hs : swapsWithSole [.Tuple [.Name x px, .Name y py, .Name z pz] kt pt] (.Tuple [a, b, c] k2 pt2) pos.line X.env = pure false := by rfl)
    (h1 : starEach [a, b, c] X.env = (false, eval a X.env) :: starEach [b, c] X.env := by rfl) (h2 : starEach [b, c] X.env = (false, eval b X.env) :: starEach [c] X.env := by rfl) (h3 : starEach [c] X.env = (false, eval c X.env) :: starEach [] X.env := by rfl) :
    PS X (.Assign [.Tuple [.Name x px, .Name y py, .Name z pz] kt pt] (.Tuple [a, b, c] k2 pt2) pos) (tH X.w B ρ (· = ((ρ.set i s1).set j s2).set l s3) R) :=
  weakS (ps_par3 hc hN hi hj hl hij hil hjl hx hy hz (pa_cons ha (pa_cons hb (pa_cons hcc pa_nil h3) h2) h1) hw hs) fun D σ H ⟨F, a, k, _⟩ => ⟨F, a, fun v F1 H1 g1 o1 n1 => ⟨F1, a.grow g1, fun u F2 H2 g2 o2 n2 => ⟨F2, (a.grow g1).grow g2, fun t F3 H3 g3 o3 n3 => ⟨v, u, t, rfl,
    k F3 _ _ H3 (g1.f.trans (g2.f.trans g3.f)) rfl (((a.set_new g1 o1 n1).set_new g2 o2 n2).set_new g3 o3 n3)⟩⟩⟩⟩
/-- y = [..] on one line -/
theorem hs_setLc (i : Nat) {α : Type} (emb : α → PyData) {xs : List α} {f : α → Bool} {h : α → PyData} {ρb : α → List Sl} {js : List Nat} {y : Str} {py : Pos} {elt tg iter : Expr} {ifs : List Expr} {scope : Scope} {own : List (Str × Nat)} {g : TG} {spos : Pos}
    (hi : PI X tg iter (tI X.w B ρ (xs.map emb))) (hc : X.calm = true) (hN : X.N.Nodup) (ok : BlkOk X.N X.env.scope scope own)
    (hsw : swapsWith (.ListComp elt [⟨tg, iter, ifs, 0⟩] scope pos) (some (.Name y py)) spos.line X.env = pure true)
    (hg : ∀ (s : Shared) (H : Hp) (C : Addr) (cl : List (Str × Addr)) (fp : List Addr), PG (X.blk s H scope (compEnvC scope cl C X.env) fp) tg g) (hjs : ∀ j ∈ js, j ∈ own.map (·.2))
    (hb : ∀ x ∈ xs, Bd X.w B g (emb x) (wipeR ρ (own.map (·.2))) (ρb x) js)
    (ht : ∀ (s : Shared) (H : Hp) (C : Addr) (cl : List (Str × Addr)) (fp : List Addr), ∀ x ∈ xs, PTs (X.blk s H scope (compEnvC scope cl C X.env) fp) ifs (tT X.w B (ρb x) (f x)))
    (he : ∀ (s : Shared) (H : Hp) (C : Addr) (cl : List (Str × Addr)) (fp : List Addr), ∀ x ∈ xs, f x = true → PE (X.blk s H scope (compEnvC scope cl C X.env) fp) elt (tV X.w B (ρb x) (.pu (h x))))
    (hl : xs.length ≤ 1000) (hy : X.N[i]? = some y := by rfl) (hyl : X.env.scope.names.lookup y = some .local := by rfl) (hs : ∀ x, foldedSetIterable iter X.env x = pure x := by intro _; rfl) :
    PS X (.Assign [.Name y py] (.ListComp elt [⟨tg, iter, ifs, 0⟩] scope pos) spos) (tH X.w B ρ (· = ρ.set i (.ol ((xs.filter f).map h))) R) :=
  weakS (ps_setLc (tt := fun σ H Q => ∃ x, x ∈ xs ∧ tT X.w B (ρb x) (f x) σ H Q) (te := fun σ H Q => ∃ x, (x ∈ xs ∧ f x = true) ∧ tV X.w B (ρb x) (.pu (h x)) σ H Q) hc hN hy hyl hsw hi ok hg
    (fun s H C cl fp => anyTs (fun x hx => ht s H C cl fp x hx)) (fun s H C cl fp => anyE (fun x hx => he s H C cl fp x hx.1 hx.2)) hs) fun D σ H ⟨F, a, k, _⟩ =>
    lc_read hjs hb hl ⟨F, a, fun v F1 H1 g o n => k F1 _ _ H1 g.f rfl (a.set_new g o n)⟩

/-! ## return, if -/
theorem hs_ret (he : PE X e (tN X.w B ρ s)) (hR : R s ρ) : PS X (.Return (some e) pos) (tH X.w B ρ N R) :=
  weakS (ps_ret he) fun D σ H ⟨F, a, _, r⟩ => ⟨F, a, fun v F1 H1 g o n => r F1 s v ρ σ H1 hR (a.grow g) o fun c oc ec => a.gr.h.free (n c oc ec)⟩
/-- return of a slot that is the frame's own -/
theorem hs_retO (i : Nat) {x : Str} {px : Pos} (hR : R s ρ) (hρ : ρ[i]? = some s := by rfl) (ho : s.own = true := by rfl) (hN : X.N[i]? = some x := by rfl) (hv : Vis X.env.scope x := by first | exact Or.inl rfl | exact Or.inr (Or.inl rfl) | exact Or.inr (Or.inr rfl)) (hd : (x == ("__debug__" : Str)) = false := by decide)
    (hcd : (x == ("__classdict__" : Str)) = false := by decide) : PS X (.Return (some (.Name x px)) pos) (tH X.w B ρ N R) :=
  weakS (ps_ret (pe_var hN hv hd hcd)) fun D σ H ⟨F, a, _, r⟩ => by
    obtain ⟨v, h1, h2⟩ := a.ok i s hρ (fun z => by rw [z] at ho; cases ho)
    exact ⟨v, h1, r F s v ρ σ H hR a h2 fun c oc ec => a.nw i s c hρ oc (by rw [h1, ec])⟩
theorem hs_if {c : Expr} {t u : List Stmt} {b : Bool} (hc : PT X c (tT X.w B ρ b)) (h1 : b = true → PSs X t (tH X.w B ρ N R)) (h2 : b = false → PSs X u (tH X.w B ρ N R)) : PS X (.If c t u pos) (tH X.w B ρ N R) := by
  cases b with
  | true =>
    refine weakS (ps_if (u := fun _ _ _ => False) hc (h1 rfl) ⟨fun _ _ _ _ _ _ z => z.elim⟩) fun D σ H ⟨F, a, k, r⟩ => ⟨F, a, fun F1 H1 g => ?_⟩
    show tH X.w B ρ N R D σ H1
    exact ⟨F1, a.grow g, fun F2 ρ2 σ2 H2 e n a2 => k F2 ρ2 σ2 H2 (g.f.trans e) n a2, r⟩
  | false =>
    refine weakS (ps_if (t := fun _ _ _ => False) hc ⟨fun _ _ _ _ _ _ z => z.elim⟩ (h2 rfl)) fun D σ H ⟨F, a, k, r⟩ => ⟨F, a, fun F1 H1 g => ?_⟩
    show tH X.w B ρ N R D σ H1
    exact ⟨F1, a.grow g, fun F2 ρ2 σ2 H2 e n a2 => k F2 ρ2 σ2 H2 (g.f.trans e) n a2, r⟩

/-! ## lists and dicts that change -/
section
variable {x : Str} {px apos cpos : Pos}
theorem hs_append (i : Nat) {ds : List PyData} {d : PyData} (he : PE X e (tV X.w B ρ (.pu d))) (hl : ds.length < 1000) (hρ : ρ[i]? = some (.ol ds) := by rfl)
    (hN : X.N[i]? = some x := by rfl) (hv : Vis X.env.scope x := by first | exact Or.inl rfl | exact Or.inr (Or.inl rfl) | exact Or.inr (Or.inr rfl)) (hd : (x == ("__debug__" : Str)) = false := by decide) (hcd : (x == ("__classdict__" : Str)) = false := by decide)
    (hbase : attributeBase (.Name x px) "append" X.env (eval (.Name x px) X.env) = eval (.Name x px) X.env := by rfl)
    (hfew : ((backTo cpos (starEach (e :: []) X.env)).all (fun x => !x.1) && (backToKw cpos (keywordEach [] X.env)).all (fun x => x.1.isSome) && decide ((e :: []).length + ([] : List Keyword).length + (if ([] : List Keyword).isEmpty then 0 else 1) < 30)) = true := by rfl)
    (hline : (apos.endLine == cpos.line) = true := by rfl) (hst : starEach (e :: []) X.env = (false, eval e X.env) :: starEach [] X.env := by rfl) (hplain : (backTo cpos (starEach [] X.env)).any (·.1) = false := by rfl)
    (hsw : swapsWith (.Call (.Attribute (.Name x px) "append" apos) [e] [] cpos) none pos.line X.env = pure false := by rfl) :
    PS X (.Expr (.Call (.Attribute (.Name x px) "append" apos) [e] [] cpos) pos) (tH X.w B ρ (· = ρ.set i (.ol (ds ++ [d]))) R) :=
  weakS (ps_expr (pe_bm PySem.F.plainAttrs_list PySem.F.slot_list_append PySem.F.type_list_append mt_append (pe_var hN hv hd hcd) (pa_cons he pa_nil hst) hbase hfew hline hst hplain) hsw) fun D σ H ⟨F, a, k, _⟩ => by
    obtain ⟨v, h1, h2⟩ := a.ok i _ hρ (fun z => by cases z)
    obtain ⟨p, xs, ev, fp, hp, r⟩ := id h2
    subst ev
    refine ⟨_, h1, .inl ⟨rfl, xs, SqL.of hp⟩, F, a, fun u F1 H1 g o => ⟨p, xs, u, rfl, rfl, g.h _ _ hp, ?_, ?_⟩⟩
    · have := r.length
      exact small1000 (by omega)
    · have a1 := a.grow g
      refine k F1 _ _ _ g.f rfl (a1.mut hρ rfl rfl h1 ⟨p, xs ++ [u], rfl, g.nw p fp ⟨_, hp, fun _ z => by first | cases z | (unfold SetO at z; cases z)⟩, upd_same, ?_⟩)
      exact (RpAll.mono g.f _ _ r).snoc o
theorem hs_extend (i : Nat) {ds es : List PyData} (he : PE X e (tV X.w B ρ (.pu (.list es)))) (hl : ds.length + es.length < 1000) (hρ : ρ[i]? = some (.ol ds) := by rfl)
    (hN : X.N[i]? = some x := by rfl) (hv : Vis X.env.scope x := by first | exact Or.inl rfl | exact Or.inr (Or.inl rfl) | exact Or.inr (Or.inr rfl)) (hd : (x == ("__debug__" : Str)) = false := by decide) (hcd : (x == ("__classdict__" : Str)) = false := by decide)
    (hbase : attributeBase (.Name x px) "extend" X.env (eval (.Name x px) X.env) = eval (.Name x px) X.env := by rfl)
    (hfew : ((backTo cpos (starEach (e :: []) X.env)).all (fun x => !x.1) && (backToKw cpos (keywordEach [] X.env)).all (fun x => x.1.isSome) && decide ((e :: []).length + ([] : List Keyword).length + (if ([] : List Keyword).isEmpty then 0 else 1) < 30)) = true := by rfl)
    (hline : (apos.endLine == cpos.line) = true := by rfl) (hst : starEach (e :: []) X.env = (false, eval e X.env) :: starEach [] X.env := by rfl) (hplain : (backTo cpos (starEach [] X.env)).any (·.1) = false := by rfl)
    (hsw : swapsWith (.Call (.Attribute (.Name x px) "extend" apos) [e] [] cpos) none pos.line X.env = pure false := by rfl) :
    PS X (.Expr (.Call (.Attribute (.Name x px) "extend" apos) [e] [] cpos) pos) (tH X.w B ρ (· = ρ.set i (.ol (ds ++ es))) R) :=
  weakS (ps_expr (pe_bm PySem.F.plainAttrs_list PySem.F.slot_list_extend PySem.F.type_list_extend mt_extend (pe_var hN hv hd hcd) (pa_cons he pa_nil hst) hbase hfew hline hst hplain) hsw) fun D σ H ⟨F, a, k, _⟩ => by
    obtain ⟨v, h1, h2⟩ := a.ok i _ hρ (fun z => by cases z)
    obtain ⟨p, xs, ev, fp, hp, r⟩ := id h2
    subst ev
    refine ⟨_, h1, .inl ⟨rfl, xs, SqL.of hp⟩, F, a, fun u F1 H1 g o => ?_⟩
    obtain ⟨q, ys, eu, hq, r2⟩ := Rp.list_inv o
    subst eu
    refine ⟨p, q, xs, ys, rfl, rfl, g.h _ _ hp, g.fh _ _ hq, ?_, ?_⟩
    · have h1 := r.length
      have h2 := r2.length
      exact Nat.le_of_lt (small1000 (by omega))
    · have a1 := a.grow g
      refine k F1 _ _ _ g.f rfl (a1.mut hρ rfl rfl h1 ⟨p, xs ++ ys, rfl, g.nw p fp ⟨_, hp, fun _ z => by first | cases z | (unfold SetO at z; cases z)⟩, upd_same, ?_⟩)
      exact (RpAll.mono g.f _ _ r).append r2
/-- y = x.pop(): the last of a list of the frame's own -/
theorem hs_setPop (i j : Nat) {y : Str} {py : Pos} {ds : List PyData} {d : PyData} (hρ : ρ[i]? = some (.ol (ds ++ [d]))) (hN : X.N.Nodup)
    (hi : X.N[i]? = some x := by rfl) (hv : Vis X.env.scope x := by first | exact Or.inl rfl | exact Or.inr (Or.inl rfl) | exact Or.inr (Or.inr rfl)) (hd : (x == ("__debug__" : Str)) = false := by decide) (hcd : (x == ("__classdict__" : Str)) = false := by decide)
    (hj : X.N[j]? = some y := by rfl) (hy : Loc X.env.scope y := by first | exact Or.inl rfl | exact Or.inr rfl)
    (hf : X.fn y = true ∨ X.env.scope.names.lookup y = some .local := by first | exact .inl rfl | exact .inr rfl)
    (hbase : attributeBase (.Name x px) "pop" X.env (eval (.Name x px) X.env) = eval (.Name x px) X.env := by rfl)
    (hline : (apos.endLine == cpos.line) = true := by rfl) 
    (hsw : swapsWith (.Call (.Attribute (.Name x px) "pop" apos) [] [] cpos) (some (.Name y py)) pos.line X.env = pure false := by rfl) :
    PS X (.Assign [.Name y py] (.Call (.Attribute (.Name x px) "pop" apos) [] [] cpos) pos) (tH X.w B ρ (· = (ρ.set i (.ol ds)).set j (.pu d)) R) :=
  weakS (ps_set hN hj hy (pe_bm0 PySem.F.plainAttrs_list PySem.F.slot_list_pop PySem.F.type_list_pop mt_pop (pe_var hi hv hd hcd) hbase hline) hsw hf) fun D σ H ⟨F, a, k, _⟩ => by
    obtain ⟨v, h1, h2⟩ := a.ok i _ hρ (fun z => by cases z)
    obtain ⟨p, xs, ev, fp, hp, r⟩ := id h2
    subst ev
    have hl := r.length
    rw [List.length_append, List.length_singleton] at hl
    obtain ⟨u, hu, ru⟩ := r.at (i := xs.length - 1) (d := d) (by rw [hl]; simp)
    refine ⟨_, h1, .inl ⟨rfl, xs, SqL.of hp⟩, p, xs, u, rfl, rfl, hp, hu, ?_⟩
    refine k F _ _ _ (Same.refl _) rfl ((a.mut hρ rfl rfl h1 (s' := .ol ds) ⟨p, xs.dropLast, rfl, fp, upd_same, ?_⟩).set_pu ru)
    have h := r.take (xs.length - 1)
    rw [hl, Nat.add_sub_cancel, List.take_left'  rfl] at h
    rw [List.dropLast_eq_take, hl, Nat.add_sub_cancel]
    exact h
end
end
end GY
namespace GY
open PySem PySem.Spec PyProof.Rows L2

/-! ## dicts with tuples of ints as keys -/
abbrev dI (l : List Int) : PyData := .tuple (l.map .int)
def dGet (kvs : List (List Int × PyData)) (k : List Int) : Option PyData := (kvs.find? fun kv => decide (kv.1 = k)).map (·.2)
def dPut (kvs : List (List Int × PyData)) (k : List Int) (d : PyData) : List (List Int × PyData) :=
  if (kvs.any fun kv => decide (kv.1 = k)) = true then kvs.map (fun kv => if kv.1 = k then (kv.1, d) else kv) else kvs ++ [(k, d)]
theorem inl_inj : ∀ {a b : List Int}, a.map (Sum.inl : Int → Key) = b.map Sum.inl → a = b
  | [], [], _ => rfl
  | [], _ :: _, h => by cases h
  | _ :: _, [], h => by cases h
  | x :: a, y :: b, h => by
    rw [List.map_cons, List.map_cons] at h
    injection h with h1 h2
    injection h1 with h1
    rw [h1, inl_inj h2]
theorem keyV : ∀ k : List Int, (k.map (Sum.inl : Int → Key)).map kV = k.map V.int
  | [] => rfl
  | x :: k => by rw [List.map_cons, List.map_cons, keyV k]; rfl
theorem dict_get {F : Hp} : ∀ {ws : List (List Key × V)} {kvs : List (List Int × PyData)} (k : List Int), DictRep F ws kvs →
    (∀ d, dGet kvs k = some d → ∃ v, valV ws (k.map Sum.inl) = some v ∧ Rp F v d) ∧ (dGet kvs k = none → valV ws (k.map Sum.inl) = none)
  | _, _, k, .nil => ⟨fun d e => (by cases e), fun _ => rfl⟩
  | (k1, v) :: ws, (k2, d) :: kvs, k, .cons ⟨h1, h2⟩ t => by
    have ih := dict_get k t
    have h1 : k1 = k2.map Sum.inl := h1
    subst h1
    by_cases e : k2 = k
    · subst e
      have e1 : dGet ((k2, d) :: kvs) k2 = some d := by simp [dGet, List.find?_cons]
      rw [valV_pos rfl]
      refine ⟨fun d' q => ⟨v, rfl, ?_⟩, fun q => ?_⟩
      · rw [e1] at q
        cases q
        exact h2
      · rw [e1] at q
        cases q
    · have e1 : dGet ((k2, d) :: kvs) k = dGet kvs k := by simp [dGet, List.find?_cons, e]
      rw [e1, valV_neg (fun z => e (inl_inj z))]
      exact ih
theorem dict_any {F : Hp} : ∀ {ws : List (List Key × V)} {kvs : List (List Int × PyData)} (k : List Int), DictRep F ws kvs → (ws.any fun kv => decide (kv.1 = k.map Sum.inl)) = (kvs.any fun kv => decide (kv.1 = k))
  | _, _, k, .nil => rfl
  | (k1, v) :: ws, (k2, d) :: kvs, k, .cons ⟨h1, h2⟩ t => by
    have h1 : k1 = k2.map Sum.inl := h1
    subst h1
    rw [List.any_cons, List.any_cons, dict_any k t]
    by_cases e : k2 = k
    · subst e; simp
    · have e2 : ¬ k2.map (Sum.inl : Int → Key) = k.map Sum.inl := fun z => e (inl_inj z)
      simp [e, e2]
theorem dict_putA {F : Hp} {k : List Int} {v : V} {d : PyData} (r : Rp F v d) : ∀ {ws : List (List Key × V)} {kvs : List (List Int × PyData)}, DictRep F ws kvs →
    DictRep F (ws.map fun kv => if kv.1 = k.map Sum.inl then (kv.1, v) else kv) (kvs.map fun kv => if kv.1 = k then (kv.1, d) else kv)
  | _, _, .nil => .nil
  | (k1, v1) :: ws, (k2, d2) :: kvs, .cons ⟨h1, h2⟩ t => by
    have h1 : k1 = k2.map Sum.inl := h1
    subst h1
    refine .cons ?_ (dict_putA r t)
    by_cases e : k2 = k
    · subst e
      show (if k2.map (Sum.inl : Int → Key) = k2.map Sum.inl then (k2.map Sum.inl, v) else (k2.map Sum.inl, v1)).1 = (if k2 = k2 then (k2, d) else (k2, d2)).1.map Sum.inl ∧ Rp F (if k2.map (Sum.inl : Int → Key) = k2.map Sum.inl then (k2.map (Sum.inl : Int → Key), v) else (k2.map Sum.inl, v1)).2 (if k2 = k2 then (k2, d) else (k2, d2)).2
      rw [if_pos rfl, if_pos rfl]
      exact ⟨rfl, r⟩
    · have e2 : ¬ k2.map (Sum.inl : Int → Key) = k.map Sum.inl := fun z => e (inl_inj z)
      show (if k2.map (Sum.inl : Int → Key) = k.map Sum.inl then (k2.map Sum.inl, v) else (k2.map Sum.inl, v1)).1 = (if k2 = k then (k2, d) else (k2, d2)).1.map Sum.inl ∧ Rp F (if k2.map (Sum.inl : Int → Key) = k.map Sum.inl then (k2.map (Sum.inl : Int → Key), v) else (k2.map Sum.inl, v1)).2 (if k2 = k then (k2, d) else (k2, d2)).2
      rw [if_neg e2, if_neg e]
      exact ⟨rfl, h2⟩
theorem DictRep.snoc {F : Hp} {ws : List (List Key × V)} {kvs : List (List Int × PyData)} {k : List Int} {v : V} {d : PyData} (h : DictRep F ws kvs) (r : Rp F v d) : DictRep F (ws ++ [(k.map Sum.inl, v)]) (kvs ++ [(k, d)]) :=
  Paired.snoc h ⟨rfl, r⟩
theorem dict_put {F : Hp} {ws : List (List Key × V)} {kvs : List (List Int × PyData)} {k : List Int} {v : V} {d : PyData} (h : DictRep F ws kvs) (r : Rp F v d) : DictRep F (putK ws (k.map Sum.inl) v) (dPut kvs k d) := by
  unfold putK dPut
  rw [dict_any k h]
  split
  · exact dict_putA r h
  · exact h.snoc r
theorem dict_len {F : Hp} {ws : List (List Key × V)} {kvs : List (List Int × PyData)} (h : DictRep F ws kvs) : ws.length = kvs.length := Paired.length h
theorem Rp.key {F : Hp} {y : V} {k : List Int} (o : Rp F y (dI k)) (hk : k ≠ []) : ∃ b, y = .ref b ∧ F b = some (.tup ((k.map (Sum.inl : Int → Key)).map kV)) := by
  cases o with
  | tup h r => exact ⟨_, rfl, by rw [h, r.ints, keyV]⟩
  | tupx _ n _ =>
    cases k with
    | nil => exact absurd rfl hk
    | cons x k => exact n.elim
theorem key_rp {F : Hp} {b : Addr} {k : List Int} (h : F b = some (.tup ((k.map (Sum.inl : Int → Key)).map kV))) : Rp F (.ref b) (dI k) := by
  rw [keyV] at h
  exact .tup h (RpAll.of_ints k)

section
variable {X : Cx} {e a b o i : Expr} {pos : Pos} {B : Bs} {ρ ρ' : List Sl} {s s1 s2 : Sl} {d : PyData} {N M : List Sl → Prop} {R : Sl → List Sl → Prop} {st : Stmt} {rest sts : List Stmt} {kvs : List (List Int × PyData)} {k : List Int}
theorem dkey (h : PE X e (tV X.w B ρ (.pu (dI k)))) (hk : k ≠ []) : PE X e (tV X.w B ρ (.kt k)) :=
  weakE h fun σ H Q ⟨F, a, q⟩ => ⟨F, a, fun v F1 H1 g o => q v F1 H1 g (o.key hk)⟩
theorem dkpu (h : PE X e (tV X.w B ρ (.kt k))) : PE X e (tV X.w B ρ (.pu (dI k))) :=
  weakE h fun σ H Q ⟨F, a, q⟩ => ⟨F, a, fun v F1 H1 g ⟨b, ev, hb⟩ => q v F1 H1 g (by rw [ev]; exact key_rp hb)⟩
theorem ddget {n : Nat} (hr : Room n X.A) (ho : PE X o (tV X.w B ρ (.od kvs))) (hi : PE X i (tV X.w B ρ (.kt k))) (hd : dGet kvs k = some d) (hs : NoSl i := by intro _ _; rfl) : PE X (.Subscript o i pos) (tV X.w B ρ (.pu d)) :=
  weakE (pe_dget (hu_of hr) ho hi hs) fun σ H Q ⟨F, a, q⟩ => ⟨F, a, fun v F1 H1 g1 ⟨p, ws, ev, fp, hp, r⟩ => ⟨F1, a.grow g1, fun y F2 H2 g2 oy => by
    obtain ⟨bk, ey, hb⟩ := oy
    obtain ⟨u, hu, ru⟩ := (dict_get k r).1 d hd
    subst ev ey
    refine ⟨p, u, rfl, ?_, q u F2 H2 (g1.trans g2) (Rp.mono g2.f _ _ ru)⟩
    rw [← hu]
    exact DGet.t (g2.h _ _ hp) (g2.fh _ _ hb)⟩⟩
theorem in_dict {w : World} {B : Bs} {neg : Bool} {σ : L2.St} {H : Hp} {Q : VK} (q : tV w B ρ (.pu (.bool (if neg then !(dGet kvs k).isSome else (dGet kvs k).isSome))) σ H Q) :
    (tV w B ρ (.kt k)) σ H fun y H1 => (tV w B ρ (.od kvs)) σ H1 fun x H2 => ∃ a o, x = .ref a ∧ DGet H2 a y o ∧ Q (.bl (if neg then !o.isSome else o.isSome)) H2 := by
  obtain ⟨F, a, q⟩ := q
  refine ⟨F, a, fun y F1 H1 g1 oy => ⟨F1, a.grow g1, fun v F2 H2 g2 ⟨p, ws, ev, fp, hp, r⟩ => ?_⟩⟩
  obtain ⟨bk, ey, hb⟩ := oy
  subst ev ey
  have hd : DGet H2 p (.ref bk) (valV ws (k.map Sum.inl)) := DGet.t hp (g2.h _ _ (g1.fh _ _ hb))
  refine ⟨p, _, rfl, hd, ?_⟩
  have e : (valV ws (k.map Sum.inl)).isSome = (dGet kvs k).isSome := by
    cases h : dGet kvs k with
    | none => simp [(dict_get k r).2 h]
    | some d =>
      obtain ⟨u, hu, _⟩ := (dict_get k r).1 d h
      rw [hu]
      rfl
  rw [e]
  exact q _ F2 H2 (g1.trans g2) (Rp.bl _)
theorem ddin {n : Nat} (hr : Room n X.A) (hi : PE X i (tV X.w B ρ (.kt k))) (ho : PE X o (tV X.w B ρ (.od kvs))) (hm : behindInMarks .In o = false := by rfl) : PE X (.Compare i [.In] [o] pos) (tV X.w B ρ (.pu (.bool (dGet kvs k).isSome))) :=
  weakE (pe_cmp (pc_din (hu_of hr) hi ho) hm) fun σ H Q q => in_dict (neg := false) q
theorem ddnin {n : Nat} (hr : Room n X.A) (hi : PE X i (tV X.w B ρ (.kt k))) (ho : PE X o (tV X.w B ρ (.od kvs))) (hm : behindInMarks .NotIn o = false := by rfl) : PE X (.Compare i [.NotIn] [o] pos) (tV X.w B ρ (.pu (.bool (!(dGet kvs k).isSome)))) :=
  weakE (pe_cmp (pc_dnotin (hu_of hr) hi ho) hm) fun σ H Q q => in_dict (neg := true) q
/-- a comparison as a test, once it is a value -/
theorem tcmpE {op : CmpOp} {t : TE} {v : Bool} (h : PC X op a b t) (hm : behindInMarks op b = false) (i : ∀ σ H Q, tV X.w B ρ (.pu (.bool v)) σ H Q → t σ H Q) : PT X (.Compare a [op] [b] pos) (tT X.w B ρ v) :=
  weakT (pt_cmp h hm) fun σ H Q ⟨F, a, q⟩ => i σ H _ ⟨F, a, fun u F' H' g o => ⟨v, Rp.bool_inv o, q F' H' g⟩⟩
theorem tdin {n : Nat} (hr : Room n X.A) (hi : PE X i (tV X.w B ρ (.kt k))) (ho : PE X o (tV X.w B ρ (.od kvs))) (hm : behindInMarks .In o = false := by rfl) : PT X (.Compare i [.In] [o] pos) (tT X.w B ρ (dGet kvs k).isSome) :=
  tcmpE (pc_din (hu_of hr) hi ho) hm fun σ H Q q => in_dict (neg := false) q
theorem tdnin {n : Nat} (hr : Room n X.A) (hi : PE X i (tV X.w B ρ (.kt k))) (ho : PE X o (tV X.w B ρ (.od kvs))) (hm : behindInMarks .NotIn o = false := by rfl) : PT X (.Compare i [.NotIn] [o] pos) (tT X.w B ρ (!(dGet kvs k).isSome)) :=
  tcmpE (pc_dnotin (hu_of hr) hi ho) hm fun σ H Q q => in_dict (neg := true) q
/-- d[k] = v, d a dict of the frame's own in slot j -/
theorem hs_dput (j : Nat) {n : Nat} {x : Str} {px pos' : Pos} (hr : Room n X.A) (hi : PE X i (tV X.w B ρ (.kt k))) (hv : PE X e (tV X.w B ρ (.pu d))) (hl : kvs.length < 1000) (hρ : ρ[j]? = some (.od kvs) := by rfl)
    (hN : X.N[j]? = some x := by rfl) (hvis : Vis X.env.scope x := by first | exact Or.inl rfl | exact Or.inr (Or.inl rfl) | exact Or.inr (Or.inr rfl)) (hd : (x == ("__debug__" : Str)) = false := by decide) (hcd : (x == ("__classdict__" : Str)) = false := by decide)
    (hs : swapsWith e (some (.Subscript (.Name x px) i pos')) pos.line X.env = pure false := by rfl) : PS X (.Assign [.Subscript (.Name x px) i pos'] e pos) (tH X.w B ρ (· = ρ.set j (.od (dPut kvs k d))) R) :=
  weakS (ps_dput (hu_of hr) (pe_var hN hvis hd hcd) hi hv hs) fun D σ H ⟨F, a, q, _⟩ => ⟨F, a, fun v F1 H1 g1 ov => by
    have a1 := a.grow g1
    obtain ⟨u, h1, h2⟩ := a1.ok j _ hρ (fun z => by cases z)
    refine ⟨u, h1, F1, a1, fun y F2 H2 g2 oy => ?_⟩
    have a2 := a1.grow g2
    obtain ⟨p, ws, ev, fp, hp, r⟩ := h2.grow g2
    obtain ⟨bk, ey, hb⟩ := oy
    subst ev ey
    refine ⟨p, _, rfl, DPut.t (k := k.map Sum.inl) hp (g2.fh _ _ hb) (by rw [dict_len r]; exact small1000 (by omega)), ?_⟩
    exact q F2 _ _ _ (g1.f.trans g2.f) rfl (a2.mut hρ rfl rfl h1 ⟨p, _, rfl, fp, upd_same, dict_put r (Rp.mono g2.f _ _ ov)⟩)⟩

/-! ## slots forgotten -/
inductive Fgt : List Sl → List Sl → Prop
  | nil : Fgt [] []
  | keep {t : Sl} {u v : List Sl} : Fgt u v → Fgt (t :: u) (t :: v)
  | drop {t : Sl} {u v : List Sl} : Fgt u v → Fgt (t :: u) (.un :: v)
theorem Fgt.refl : ∀ a : List Sl, Fgt a a
  | [] => .nil
  | _ :: a => .keep (Fgt.refl a)
theorem Fgt.look : ∀ {a b : List Sl} {i : Nat} {s : Sl}, Fgt a b → b[i]? = some s → s = .un ∨ a[i]? = some s
  | _, _, _, _, .nil, h => by simp at h
  | _, _, 0, _, .keep _, h => .inr (by simpa using h)
  | _, _, 0, _, .drop _, h => .inl (by simpa using h.symm)
  | _, _, i + 1, s, .keep t, h => by
    have := Fgt.look (i := i) (s := s) t (by simpa using h)
    simpa using this
  | _, _, i + 1, s, .drop t, h => by
    have := Fgt.look (i := i) (s := s) t (by simpa using h)
    simpa using this
theorem Fgt.length : ∀ {a b : List Sl}, Fgt a b → a.length = b.length
  | _, _, .nil => rfl
  | _, _, .keep t => by simp [Fgt.length t]
  | _, _, .drop t => by simp [Fgt.length t]
theorem AS.sub {w : World} {B : Bs} {F H : Hp} {σ : L2.St} (a : AS w B ρ F σ H) (u : Fgt ρ ρ') : AS w B ρ' F σ H := by
  have nun : ∀ t : Sl, t.own = true → t ≠ .un := fun t o z => by subst z; cases o
  refine ⟨a.gr, by rw [a.len, u.length], fun i s e n => ?_, fun i s c e o q => ?_, fun i j s t c h es et os ot q => ?_⟩
  · rcases u.look e with z | z
    · exact absurd z n
    · exact a.ok i s z n
  · rcases u.look e with z | z
    · exact absurd z (nun s o)
    · exact a.nw i s c z o q
  · rcases u.look es with z | z
    · exact absurd z (nun s os)
    · rcases u.look et with z2 | z2
      · exact absurd z2 (nun t ot)
      · exact a.dj i j s t c h z z2 os ot q
/-- up to slots forgotten -/
def Up (P : List Sl → Prop) : List Sl → Prop := fun ρ => ∃ ρ', Fgt ρ ρ' ∧ P ρ'
theorem Up.of {P : List Sl → Prop} (h : P ρ) : Up P ρ := ⟨ρ, Fgt.refl ρ, h⟩

/-! ## loops -/
theorem hs_for {ds : List PyData} {P : Nat → List Sl → Prop} {ρb : Nat → PyData → List Sl → List Sl} {js : List Nat} {tg iter : Expr} {body : List Stmt} {g : TG} (hp : PassesOwn (model X.prog X.w) X.A X.env X.xe) (hc : X.calm = true)
    (hi : PI X tg iter (tI X.w B ρ ds)) (hg : PG X tg g) (h0 : P 0 ρ) (hb : ∀ i d ρ, ds[i]? = some d → P i ρ → Bd X.w B g d ρ (ρb i d ρ) js)
    (hbody : ∀ i d ρ, ds[i]? = some d → P i ρ → PSs X body (tH X.w B (ρb i d ρ) (Up (P (i + 1))) R)) (hs : ∀ x, foldedSetIterable iter X.env x = pure x := by intro _; rfl) :
    PS X (.For tg iter body [] pos) (tH X.w B ρ (P ds.length) R) := by
  refine weakS (ps_for hp hc hi hg (anySs (p := fun z : Nat × PyData × List Sl => ds[z.1]? = some z.2.1 ∧ P z.1 z.2.2) (t := fun z => tH X.w B (ρb z.1 z.2.1 z.2.2) (Up (P (z.1 + 1))) R) fun z hz => hbody z.1 z.2.1 z.2.2 hz.1 hz.2) hs) fun D σ H ⟨F, a, k, r⟩ => ?_
  refine ⟨F, a, fun J F1 H1 g1 yl => ?_⟩
  refine ⟨fun i m σ' H' => m = ds.length - i ∧ i ≤ ds.length ∧ ∃ F' ρ', Same F1 F' ∧ P i ρ' ∧ AS X.w B ρ' F' σ' H', ⟨ds.length, by simp, Nat.zero_le _, F1, ρ, Same.refl _, h0, a.grow g1⟩, ?_⟩
  rintro i m σ' H' ⟨rfl, hi', F', ρ', e', p', a'⟩
  by_cases hlt : i < ds.length
  · have hd : ds[i]? = some ds[i] := List.getElem?_eq_getElem hlt
    refine .inr ⟨yl.go i F' H' e' a'.fh hlt, fun σ2 H2 => ∃ F2 ρ2, Same F1 F2 ∧ P (i + 1) ρ2 ∧ AS X.w B ρ2 F2 σ2 H2, fun σ2 H2 ⟨F2, ρ2, e2, p2, a2⟩ => ⟨ds.length - (i + 1), by omega, rfl, hlt, F2, ρ2, e2, p2, a2⟩, fun v H2 y => ?_⟩
    obtain ⟨F2, g2, o2⟩ := yl.yld i F' H' v H2 _ e' a'.fh hd y
    refine hb i ds[i] ρ' hd p' v F2 H2 σ' _ (a'.grow g2) o2 fun σ3 a3 _ => ?_
    refine ⟨(i, ds[i], ρ'), ⟨hd, p'⟩, F2, a3, fun F4 ρ4 σ4 H4 e4 ⟨ρ5, u5, p5⟩ a4 => ⟨F4, ρ5, e'.trans (g2.f.trans e4), p5, a4.sub u5⟩, r⟩
  · have ei : i = ds.length := by omega
    subst ei
    exact .inl ⟨yl.stop F' H' e' a'.fh, k F' ρ' σ' H' (g1.f.trans e') p' a'⟩
theorem hs_while {α : Type} {c : Expr} {body : List Stmt} (st : α → List Sl) (I : α → Prop) (t : α → Bool) (μ : α → Nat) (hp : PassesOwn (model X.prog X.w) X.A X.env X.xe) (hc : ∀ x, I x → PT X c (tT X.w B (st x) (t x)))
    (hbody : ∀ x, I x → t x = true → PSs X body (tH X.w B (st x) (Up fun ρ' => ∃ y, I y ∧ μ y < μ x ∧ ρ' = st y) R)) (x0 : α) (h0 : I x0) (e0 : ρ = st x0) : PS X (.While c body [] pos) (tH X.w B ρ (fun ρ' => ∃ y, I y ∧ t y = false ∧ ρ' = st y) R) := by
  subst e0
  refine weakS (ps_while hp (tc := fun σ H Q => ∃ x, I x ∧ tT X.w B (st x) (t x) σ H Q) ⟨fun pins s σ H Q J q => by obtain ⟨x, hx, q⟩ := q; exact (hc x hx).run pins s σ H Q J q⟩
    (anySs (p := fun x : α => I x ∧ t x = true) (t := fun x => tH X.w B (st x) (Up fun ρ' => ∃ y, I y ∧ μ y < μ x ∧ ρ' = st y) R) fun x hx => hbody x hx.1 hx.2)) fun D σ H ⟨F, a, k, r⟩ => ?_
  refine ⟨fun m σ' H' => ∃ F' x, m = μ x ∧ Same F F' ∧ I x ∧ AS X.w B (st x) F' σ' H', ⟨μ x0, F, x0, rfl, Same.refl _, h0, a⟩, ?_⟩
  rintro m σ' H' ⟨F', x, rfl, e', hx, a'⟩
  refine ⟨x, hx, F', a', fun F1 H1 g1 => ?_⟩
  cases ht : t x with
  | true =>
    refine ⟨fun σ2 H2 => ∃ F2 y, μ y < μ x ∧ Same F F2 ∧ I y ∧ AS X.w B (st y) F2 σ2 H2, fun σ2 H2 ⟨F2, y, hm, e2, hy, a2⟩ => ⟨μ y, hm, F2, y, rfl, e2, hy, a2⟩, x, ⟨hx, ht⟩, F1, a'.grow g1, fun F4 ρ4 σ4 H4 e4 ⟨ρ5, u5, y, hy, hm, e5⟩ a4 => ?_, r⟩
    subst e5
    exact ⟨F4, y, hm, e'.trans (g1.f.trans e4), hy, a4.sub u5⟩
  | false =>
    exact k F1 (st x) σ' H1 (e'.trans g1.f) ⟨x, hx, ht, rfl⟩ (a'.grow g1)

/-! ## defs -/
end
/-- the slots at a def's entry -/
def atN (N : List Str) (ss : List Sl) : List Sl := ss ++ List.replicate (N.length - ss.length) .un
theorem VsOk.length {w : World} {F H : Hp} : ∀ {vs : List V} {ss : List Sl}, VsOk w F H vs ss → vs.length = ss.length
  | _, _, .nil => rfl
  | _, _, .cons _ t => by simp [VsOk.length t]
theorem VsOk.at {w : World} {F H : Hp} : ∀ {vs : List V} {ss : List Sl} {i : Nat} {s : Sl}, VsOk w F H vs ss → ss[i]? = some s → ∃ v, vs[i]? = some v ∧ VOk w F H v s
  | _, _, _, _, .nil, e => by simp at e
  | _, _, 0, _, .cons r _, e => by simp at e; subst e; exact ⟨_, rfl, r⟩
  | _, _, i + 1, d, .cons _ t, e => by
    obtain ⟨v, h1, h2⟩ := VsOk.at (i := i) (s := d) t (by simpa using e)
    exact ⟨v, by simpa using h1, h2⟩
/-- no argument is one's own -/
def NoOwn (ss : List Sl) : Prop := ∀ s ∈ ss, s.own = false
theorem at_look {N : List Str} {ss : List Sl} {i : Nat} {s : Sl} (h : (atN N ss)[i]? = some s) : s = .un ∨ ss[i]? = some s := by
  unfold atN at h
  by_cases hi : i < ss.length
  · rw [List.getElem?_append_left hi] at h
    exact .inr h
  · rw [List.getElem?_append_right (by omega), List.getElem?_replicate] at h
    split at h
    · exact .inl (Option.some.inj h).symm
    · cases h
theorem at_start {w : World} {N : List Str} {F H : Hp} {vs : List V} {ss : List Sl} (r : VsOk w F H vs ss) {i : Nat} {s : Sl} (h : ss[i]? = some s) : ∃ v, (L2.start N vs)[i]? = some (some v) ∧ vs[i]? = some v ∧ VOk w F H v s := by
  obtain ⟨v, hv, rv⟩ := r.at h
  refine ⟨v, ?_, hv, rv⟩
  have hi : i < vs.length := (List.getElem?_eq_some_iff.mp hv).1
  unfold L2.start
  rw [List.getElem?_append_left (by simpa using hi), List.getElem?_map, hv]
  rfl
theorem as_start {w : World} {N : List Str} {F H : Hp} {vs : List V} {ss : List Sl} (e : Same F H) (r : VsOk w F H vs ss) (no : NoOwn ss) : AS w (F, H) (atN N ss) F (L2.start N vs) H := by
  have hl := r.length
  have no' : ∀ (i : Nat) (s : Sl), (atN N ss)[i]? = some s → s.own = true → False := fun i s h o => by
    rcases at_look h with rfl | h
    · cases o
    · rw [no s (List.mem_of_getElem? h)] at o
      cases o
  refine ⟨Gr.refl e, ?_, fun i s h n => ?_, fun i s a h o => (no' i s h o).elim, fun i j s t a _ h _ o => (no' i s h o).elim⟩
  · unfold L2.start atN
    simp [hl]
  · rcases at_look h with z | h
    · exact absurd z n
    · obtain ⟨v, h1, _, h2⟩ := at_start (N := N) r h
      exact ⟨v, h1, h2⟩
section
variable {P : Program} {w : World} {K : PySem.W.Frag} {mg : Str → Option Value} {base : Heap}
/-- a def that raises nothing -/
theorem okD {x qual : Str} {st : Stmt} {f : Addr} {fd : FuncData} {N ps : List Str} {k : Nat} {Spec : List Sl → Sl → Prop} (F : Fun K x qual st f fd) (S : FnScope N ps (defScope st)) (len : ∀ ss s, Spec ss s → ss.length = ps.length ∧ NoOwn ss)
    (body : ∀ (cdv : Value) (A : Around) (outer : List Env) (sh : Shared) (H : Hp) (E : XK) (B : Bs) (ss : List Sl) (s : Sl), Room k (A.deeper (envOfC qual (defScope st) sh.heap.objs.size f cdv)) → Spec ss s →
      PSs (cxOf CX0 P w K mg base N qual (defScope st) f cdv A outer sh H E).nox (defBody st) (tH w B (atN N ss) (fun _ => False) (fun s' _ => s' = s))) : FnOk P w K mg base CX0 (k + 1) f fd ps (spS w Spec) := by
  refine F.ok S (fun vs H Q E h => ?_) (fun cdv A outer sh H vs Q E hr h => ?_)
  · obtain ⟨F0, ss, s, e, r, sp, _⟩ := h
    rw [r.length]
    exact (len ss s sp).1
  · obtain ⟨F0, ss, s, e, r, sp, q⟩ := h
    refine ⟨_, body cdv A outer sh H E (F0, H) ss s hr sp, F0, as_start e r (len ss s sp).2, fun _ _ _ _ _ z => z.elim, fun F' s' v ρ' σ' H' es a o n => ?_⟩
    subst es
    exact q v F' H' a.gr o n
/-- .. that may raise the error of the class at C -/
theorem okDX {x qual : Str} {st : Stmt} {f C : Addr} {fd : FuncData} {N ps : List Str} {k : Nat} {Spec : List Sl → Sl → Prop} {Rs : List Sl → Prop} (F : Fun K x qual st f fd) (S : FnScope N ps (defScope st)) (len : ∀ ss s, Spec ss s → ss.length = ps.length ∧ NoOwn ss) (lenR : ∀ ss, Rs ss → ss.length = ps.length ∧ NoOwn ss)
    (body : ∀ (cdv : Value) (A : Around) (outer : List Env) (sh : Shared) (H : Hp) (E : XK) (B : Bs) (ss : List Sl) (R : Sl → List Sl → Prop), Room k (A.deeper (envOfC qual (defScope st) sh.heap.objs.size f cdv)) → ((∃ s, Spec ss s ∧ R = fun s' _ => s' = s) ∨ (Rs ss ∧ ∀ H', Same B.2 H' → E (.ref C) none H')) →
      PSs (cxOf (L2.CX P w) P w K mg base N qual (defScope st) f cdv A outer sh H E) (defBody st) (tH w B (atN N ss) (fun _ => False) R)) : FnOk P w K mg base (L2.CX P w) (k + 1) f fd ps (spX w C Spec Rs) := by
  refine F.okX S (fun vs H Q E h => ?_) (fun cdv A outer sh H vs Q E hr h => ?_)
  · obtain ⟨F0, ss, e, r, h⟩ := h
    rw [r.length]
    rcases h with ⟨s, sp, _⟩ | ⟨rs, _⟩
    · exact (len ss s sp).1
    · exact (lenR ss rs).1
  · obtain ⟨F0, ss, e, r, h⟩ := h
    rcases h with ⟨s, sp, q⟩ | ⟨rs, q⟩
    · refine ⟨_, body cdv A outer sh H E (F0, H) ss (fun s' _ => s' = s) hr (.inl ⟨s, sp, rfl⟩), F0, as_start e r (len ss s sp).2, fun _ _ _ _ _ z => z.elim, fun F' s' v ρ' σ' H' es a o n => ?_⟩
      subst es
      exact q v F' H' a.gr o n
    · exact ⟨_, body cdv A outer sh H E (F0, H) ss (fun _ _ => False) hr (.inr ⟨rs, q⟩), F0, as_start e r (lenR ss rs).2, fun _ _ _ _ _ z => z.elim, fun _ _ _ _ _ _ z => z.elim⟩
end
end GY
namespace GY
open PySem PySem.Spec PyProof.Rows L2

theorem boot_all' : bootBuiltins "all" = some (.builtin "all") := by decide +kernel
theorem boot_any' : bootBuiltins "any" = some (.builtin "any") := by decide +kernel
theorem boot_sorted' : bootBuiltins "sorted" = some (.builtin "sorted") := by decide +kernel
theorem boot_abs' : bootBuiltins "abs" = some (.builtin "abs") := by decide +kernel
theorem boot_max' : bootBuiltins "max" = some (.builtin "max") := by decide +kernel
theorem boot_min' : bootBuiltins "min" = some (.builtin "min") := by decide +kernel
theorem boot_isi' : bootBuiltins "isinstance" = some (.builtin "isinstance") := by decide +kernel
theorem boot_int' : bootBuiltins "int" = some (.type "int") := by decide +kernel
theorem boot_bool' : bootBuiltins "bool" = some (.type "bool") := by decide +kernel
theorem boot_str' : bootBuiltins "str" = some (.type "str") := by decide +kernel
theorem boot_list' : bootBuiltins "list" = some (.type "list") := by decide +kernel
theorem boot_tuple' : bootBuiltins "tuple" = some (.type "tuple") := by decide +kernel
theorem boot_dict' : bootBuiltins "dict" = some (.type "dict") := by decide +kernel
theorem boot_set' : bootBuiltins "set" = some (.type "set") := by decide +kernel
theorem boot_range' : bootBuiltins "range" = some (.type "range") := by decide +kernel

section
variable {F H : Hp} {w : World}
theorem VsOk.one {vs : List V} {s : Sl} (h : VsOk w F H vs [s]) : ∃ v, vs = [v] ∧ VOk w F H v s := by
  cases h with
  | cons h1 h2 => cases h2; exact ⟨_, rfl, h1⟩
theorem VsOk.two {vs : List V} {s t : Sl} (h : VsOk w F H vs [s, t]) : ∃ v u, vs = [v, u] ∧ VOk w F H v s ∧ VOk w F H u t := by
  cases h with
  | cons h1 h2 => cases h2 with
    | cons h2 h3 => cases h3; exact ⟨_, _, rfl, h1, h2⟩
theorem npu {d : PyData} {v : V} {H : Hp} : ∀ a : Addr, (Sl.pu d).own = true → v = .ref a → H a = none := fun _ z => by cases z
theorem nol {ds : List PyData} {p : Addr} {H : Hp} (hp : H p = none) : ∀ a : Addr, (Sl.ol ds).own = true → V.ref p = .ref a → H a = none := fun a _ e => by
  injection e with e
  rw [← e]
  exact hp
/-- a place in a list, as Python counts -/
theorem RpAll.atI {xs : List V} {ds : List PyData} {i : Int} {d : PyData} (r : RpAll F xs ds) (h : L2.atI ds i = some d) : ∃ v, L2.atI xs i = some v ∧ Rp F v d := by
  unfold L2.atI at h ⊢
  rw [r.length]
  cases e : ixN ds.length i with
  | none => rw [e] at h; cases h
  | some j =>
    rw [e] at h
    exact r.at (i := j) h
theorem op_ix {K : PySem.W.Frag} {d0 d : PyData} {ds : List PyData} {i : Int} (hd : isSeq d0 ds) (hi : L2.atI ds i = some d) : DOp w (rIx K) (.pu d0) (.pu (.int i)) (.pu d) := fun x y F H Q f ox oy k => by
  have ey := Rp.int_inv oy
  subst ey
  rcases hd with rfl | rfl
  · obtain ⟨p, xs, ex, hp, r⟩ := Rp.list_inv ox
    obtain ⟨v, hv, rv⟩ := r.atI hi
    exact .inl ⟨p, xs, i, v, ex, rfl, SqL.of (f _ _ hp), hv, k v F H (Gr.refl f) rv npu⟩
  · obtain ⟨p, xs, ex, hp, r⟩ := Rp.tuple_inv ox
    obtain ⟨v, hv, rv⟩ := r.atI hi
    exact .inr (.inl ⟨p, xs, i, v, ex, rfl, sqt_rd (rdm f hp), hv, k v F H (Gr.refl f) rv npu⟩)
theorem op_ixO {K : PySem.W.Frag} {d : PyData} {ds : List PyData} {i : Int} (hi : L2.atI ds i = some d) : DOp w (rIx K) (.ol ds) (.pu (.int i)) (.pu d) := fun x y F H Q f ox oy k => by
  have ey := Rp.int_inv oy
  subst ey
  obtain ⟨p, xs, ex, _, hp, r⟩ := ox
  obtain ⟨v, hv, rv⟩ := r.atI hi
  exact .inl ⟨p, xs, i, v, ex, rfl, SqL.of hp, hv, k v F H (Gr.refl f) rv npu⟩
/-- what a slice of a list takes -/
def cutD (ds : List PyData) (lo hi : Option Int) : List PyData := (ds.drop (HT.sIx ds.length 0 lo)).take (HT.sIx ds.length ds.length hi - HT.sIx ds.length 0 lo)
theorem RpAll.cut {xs : List V} {ds : List PyData} (r : RpAll F xs ds) (lo hi : Option Int) : RpAll F (cutV xs lo hi) (cutD ds lo hi) := by
  unfold cutV cutD
  rw [r.length]
  exact (r.drop _).take _
def tyName : PyData → String
  | .none => "NoneType"
  | .bool _ => "bool"
  | .int _ => "int"
  | .str _ => "str"
  | .list _ => "list"
  | .tuple _ => "tuple"
  | .dict _ => "tuple"
theorem Rp.ty {K : PySem.W.Frag} {v : V} {d : PyData} (f : Same F H) (r : Rp F v d) : TyX K H v (.type (tyName d)) := by
  cases r with
  | non => exact .base .non
  | bl b => exact .base (.bl b)
  | int i => exact .base (.int i)
  | str x => exact .base (.str x)
  | lst h _ => exact .base (.lst (f _ _ h))
  | tup h _ => exact .base (.tup (f _ _ h))
  | tupx h _ _ => exact .fTuple (f _ _ h)
  | xt h _ => exact .fTuple (f _ _ h)
end
section
variable {X : Cx} {e a b o i : Expr} {pos : Pos} {B : Bs} {ρ ρ' : List Sl} {s s1 s2 : Sl} {d : PyData} {ds es : List PyData} {p : Pos}
theorem dixd {d0 : PyData} {i : Int} (ha : PE X a (tV X.w B ρ (.pu d0))) (hb : PE X b (tV X.w B ρ (.pu (.int i)))) (hi : L2.atI ds i = some d) (hd : isSeq d0 ds := by first | exact Or.inl rfl | exact Or.inr rfl) (hs : PlainIx b := by intro _ _; rfl) :
    PE X (.Subscript a b pos) (tV X.w B ρ (.pu d)) := dV (dix ix_seq ha hb (op_ix hd hi) hs)
theorem dixo {i : Int} (ha : PE X a (tV X.w B ρ (.ol ds))) (hb : PE X b (tV X.w B ρ (.pu (.int i)))) (hi : L2.atI ds i = some d) (hs : PlainIx b := by intro _ _; rfl) :
    PE X (.Subscript a b pos) (tV X.w B ρ (.pu d)) := dV (dix ix_seq ha hb (op_ixO hi) hs)
theorem dneg {n : Int} (ha : PE X a (tV X.w B ρ (.pu (.int n)))) : PE X (.UnaryOp .USub a pos) (tV X.w B ρ (.pu (.int (-n)))) :=
  weakE (pe_un un_neg ha) fun σ H Q ⟨F, a, k⟩ => ⟨F, a, fun v F1 H1 g o => ⟨n, Rp.int_inv o, k _ F1 H1 g (Rp.int _)⟩⟩
/-- an optional part of a slice -/
def tOpt (w : World) (B : Bs) (ρ : List Sl) (n : Option Int) : TO := fun σ H Q => ∃ F, AS w B ρ F σ H ∧ ∀ F' H', Gr F H F' H' → Q n H'
theorem onone : PO X none (tOpt X.w B ρ none) := ⟨fun pins s σ H Q I ⟨F, a, k⟩ => po_none.run pins s σ H Q I (k F H (Gr.refl a.fh))⟩
theorem osome {n : Int} (h : PE X e (tV X.w B ρ (.pu (.int n)))) : PO X (some e) (tOpt X.w B ρ (some n)) :=
  ⟨fun pins s σ H Q I ⟨F, a, k⟩ => (po_some h).run pins s σ H Q I ⟨F, a, fun v F1 H1 g o => ⟨n, Rp.int_inv o, k F1 H1 g⟩⟩⟩
theorem dsliceL {lo hi : Option Expr} {m n : Option Int} {p2 : Pos} (h : PE X e (tV X.w B ρ (.pu (.list ds)))) (hl : PO X lo (tOpt X.w B ρ m)) (hh : PO X hi (tOpt X.w B ρ n)) : PE X (.Subscript e (.Slice lo hi none p2) pos) (tV X.w B ρ (.pu (.list (cutD ds m n)))) :=
  weakE (pe_slice sl_list h hl hh) fun σ H Q ⟨F, a, k⟩ => ⟨F, a, fun v F1 H1 g1 o1 => ⟨F1, a.grow g1, fun F2 H2 g2 => ⟨F2, (a.grow g1).grow g2, fun F3 H3 g3 => by
    obtain ⟨q, xs, ev, hq, r⟩ := Rp.list_inv o1
    refine ⟨q, xs, ev, SqL.of (g3.fh _ _ (g3.f _ _ (g2.f _ _ hq))), fun t ht => ?_⟩
    refine k _ _ _ (g1.trans (g2.trans (g3.trans (Gr.new g3.fh ht)))) (Rp.lst upd_same (RpAll.mono ((g2.f.trans g3.f).trans (same_upd (g3.fh.free ht))) _ _ (r.cut m n)))⟩⟩⟩
theorem dsliceT {lo hi : Option Expr} {m n : Option Int} {p2 : Pos} (h : PE X e (tV X.w B ρ (.pu (.tuple ds)))) (hl : PO X lo (tOpt X.w B ρ m)) (hh : PO X hi (tOpt X.w B ρ n)) : PE X (.Subscript e (.Slice lo hi none p2) pos) (tV X.w B ρ (.pu (.tuple (cutD ds m n)))) :=
  weakE (pe_slice sl_tupA h hl hh) fun σ H Q ⟨F, a, k⟩ => ⟨F, a, fun v F1 H1 g1 o1 => ⟨F1, a.grow g1, fun F2 H2 g2 => ⟨F2, (a.grow g1).grow g2, fun F3 H3 g3 => by
    obtain ⟨q, xs, ev, hq, r⟩ := Rp.tuple_inv o1
    have hq3 := rdm g3.f (rdm g2.f hq)
    refine ⟨q, xs, ev, sqt_rd (rdm g3.fh hq3), fun hz => ?_, fun hz t ht => ?_⟩
    · refine k _ _ _ (g1.trans (g2.trans g3)) ?_
      have e : cutD ds m n = ds := by
        unfold cutD
        rw [← r.length, hz.1, hz.2, r.length]
        simp
      rw [e, ← ev]
      exact Rp.mono (g2.f.trans g3.f) _ _ o1
    · refine k _ _ _ (g1.trans (g2.trans (g3.trans (Gr.new g3.fh ht)))) (Rp.tup upd_same (RpAll.mono ((g2.f.trans g3.f).trans (same_upd (g3.fh.free ht))) _ _ (r.cut m n)))⟩⟩⟩
/-- list + list -/
theorem dcatN (ha : PE X a (tV X.w B ρ (.pu (.list ds)))) (hb : PE X b (tV X.w B ρ (.pu (.list es)))) (hl : ds.length + es.length < 1000) : PE X (.BinOp a .Add b pos) (tN X.w B ρ (.ol (ds ++ es))) :=
  dop op_cat ha hb fun x y F H Q f ox oy k => by
    obtain ⟨q, xs, ev, hq, r⟩ := Rp.list_inv ox
    obtain ⟨q2, ys, ev2, hq2, r2⟩ := Rp.list_inv oy
    refine ⟨q, q2, xs, ys, ev, ev2, f _ _ hq, f _ _ hq2, ?_, fun t ht => ?_⟩
    · have h1 := r.length
      have h2 := r2.length
      exact Nat.le_of_lt (small1000 (by omega))
    · exact k _ F _ (Gr.raw f ht) ⟨t, _, rfl, f.free ht, upd_same, r.append r2⟩ (nol ht)
theorem dcat (ha : PE X a (tV X.w B ρ (.pu (.list ds)))) (hb : PE X b (tV X.w B ρ (.pu (.list es)))) (hl : ds.length + es.length < 1000) : PE X (.BinOp a .Add b pos) (tV X.w B ρ (.pu (.list (ds ++ es)))) := dfz (dcatN ha hb hl)
/-- tuple + tuple -/
theorem dcatT (ha : PE X a (tV X.w B ρ (.pu (.tuple ds)))) (hb : PE X b (tV X.w B ρ (.pu (.tuple es)))) (hl : ds.length + es.length < 1000) : PE X (.BinOp a .Add b pos) (tV X.w B ρ (.pu (.tuple (ds ++ es)))) :=
  dV (dop op_catA ha hb fun x y F H Q f ox oy k => by
    obtain ⟨q, xs, ev, hq, r⟩ := Rp.tuple_inv ox
    obtain ⟨q2, ys, ev2, hq2, r2⟩ := Rp.tuple_inv oy
    have h1 := r.length
    have h2 := r2.length
    refine ⟨q, q2, xs, ys, ev, ev2, sqt_rd (rdm f hq), sqt_rd (rdm f hq2), Nat.le_of_lt (small1000 (by omega)), fun hx => ?_, fun _ hy => ?_, fun _ _ t ht => ?_⟩
    · have e : ds = [] := List.eq_nil_of_length_eq_zero (by rw [← h1, hx]; rfl)
      refine k _ F H (Gr.refl f) ?_ npu
      rw [e, ← ev2]
      exact oy
    · have e : es = [] := List.eq_nil_of_length_eq_zero (by rw [← h2, hy]; rfl)
      refine k _ F H (Gr.refl f) ?_ npu
      rw [e, List.append_nil, ← ev]
      rw [e] at oy
      exact ox
    · exact k _ _ _ (Gr.new f ht) (Rp.tup upd_same (RpAll.mono (same_upd (f.free ht)) _ _ (r.append r2))) npu)
/-- list * int -/
theorem drep {n : Int} (ha : PE X a (tV X.w B ρ (.pu (.list ds)))) (hb : PE X b (tV X.w B ρ (.pu (.int n)))) (hn : 0 ≤ n ∧ n < 100) (hl : ds.length * n.toNat < 1000) : PE X (.BinOp a .Mult b pos) (tV X.w B ρ (.pu (.list (List.replicate n.toNat ds).flatten))) :=
  dfz (dop op_rep ha hb fun x y F H Q f ox oy k => by
    obtain ⟨q, xs, ev, hq, r⟩ := Rp.list_inv ox
    have h1 := r.length
    refine ⟨q, n, xs, ev, Rp.int_inv oy, f _ _ hq, by omega, by omega, by rw [h1]; exact Nat.le_of_lt (small1000 (by omega)), fun t ht => ?_⟩
    have rr : ∀ m : Nat, RpAll F (List.replicate m xs).flatten (List.replicate m ds).flatten := fun m => by
      induction m with
      | zero => exact .nil
      | succ m ih => rw [List.replicate_succ, List.replicate_succ, List.flatten_cons, List.flatten_cons]; exact r.append ih
    exact k _ F _ (Gr.raw f ht) ⟨t, _, rfl, f.free ht, upd_same, rr _⟩ (nol ht))
/-! ## built-ins by name -/
theorem dlen {d0 : PyData} (hm : X.mg "len" = none) (h : PE X e (tV X.w B ρ (.pu d0))) (hd : isSeq d0 ds := by first | exact Or.inl rfl | exact Or.inr rfl) (hg : Gl X "len" := by rfl) (he : starEach (e :: []) X.env = (false, eval e X.env) :: starEach [] X.env := by rfl) (hpl : (backTo pos (starEach [] X.env)).any (·.1) = false := by rfl) :
    PE X (.Call (.Name "len" p) [e] [] pos) (tV X.w B ρ (.pu (.int ds.length))) :=
  dV (dblt call_len_seq hm PySem.boot_len (acons h anil he) (fun vs F H Q f o k => by
    obtain ⟨v, ev, ov⟩ := o.one
    obtain ⟨q, xs, ex, hq, r⟩ := seq_at (K := X.K) f ov hd
    refine ⟨q, xs, by rw [ev, ex], hq, ?_⟩
    rw [r.length]
    exact k _ F H (Gr.refl f) (Rp.int _) npu) hg (by decide) (by decide) he hpl)
theorem dlenO (hm : X.mg "len" = none) (h : PE X e (tV X.w B ρ (.ol ds))) (hg : Gl X "len" := by rfl) (he : starEach (e :: []) X.env = (false, eval e X.env) :: starEach [] X.env := by rfl) (hpl : (backTo pos (starEach [] X.env)).any (·.1) = false := by rfl) :
    PE X (.Call (.Name "len" p) [e] [] pos) (tV X.w B ρ (.pu (.int ds.length))) :=
  dV (dblt call_len_seq hm PySem.boot_len (acons h anil he) (fun vs F H Q f o k => by
    obtain ⟨v, ev, q, xs, ex, _, hq, r⟩ := o.one
    refine ⟨q, xs, by rw [ev, ex], .inl (SqL.of hq), ?_⟩
    rw [r.length]
    exact k _ F H (Gr.refl f) (Rp.int _) npu) hg (by decide) (by decide) he hpl)
theorem dintB {c : Bool} (hm : X.mg "int" = none) (h : PE X e (tV X.w B ρ (.pu (.bool c)))) (hg : Gl X "int" := by rfl) (he : starEach (e :: []) X.env = (false, eval e X.env) :: starEach [] X.env := by rfl) (hpl : (backTo pos (starEach [] X.env)).any (·.1) = false := by rfl) :
    PE X (.Call (.Name "int" p) [e] [] pos) (tV X.w B ρ (.pu (.int (if c then 1 else 0)))) :=
  dV (dbty call_int1 hm boot_int' (acons h anil he) (fun vs F H Q f o k => by
    obtain ⟨v, ev, ov⟩ := o.one
    exact .inr ⟨c, by rw [ev, Rp.bool_inv ov], k _ F H (Gr.refl f) (Rp.int _) npu⟩) hg (by decide) (by decide) he hpl)
theorem dintI {n : Int} (hm : X.mg "int" = none) (h : PE X e (tV X.w B ρ (.pu (.int n)))) (hg : Gl X "int" := by rfl) (he : starEach (e :: []) X.env = (false, eval e X.env) :: starEach [] X.env := by rfl) (hpl : (backTo pos (starEach [] X.env)).any (·.1) = false := by rfl) :
    PE X (.Call (.Name "int" p) [e] [] pos) (tV X.w B ρ (.pu (.int n))) :=
  dV (dbty call_int1 hm boot_int' (acons h anil he) (fun vs F H Q f o k => by
    obtain ⟨v, ev, ov⟩ := o.one
    exact .inl ⟨n, by rw [ev, Rp.int_inv ov], k _ F H (Gr.refl f) (Rp.int _) npu⟩) hg (by decide) (by decide) he hpl)
theorem dabs {n : Int} (hm : X.mg "abs" = none) (h : PE X e (tV X.w B ρ (.pu (.int n)))) (hg : Gl X "abs" := by rfl) (he : starEach (e :: []) X.env = (false, eval e X.env) :: starEach [] X.env := by rfl) (hpl : (backTo pos (starEach [] X.env)).any (·.1) = false := by rfl) :
    PE X (.Call (.Name "abs" p) [e] [] pos) (tV X.w B ρ (.pu (.int (if n < 0 then -n else n)))) :=
  dV (dblt call_abs hm boot_abs' (acons h anil he) (fun vs F H Q f o k => by
    obtain ⟨v, ev, ov⟩ := o.one
    exact ⟨n, by rw [ev, Rp.int_inv ov], k _ F H (Gr.refl f) (Rp.int _) npu⟩) hg (by decide) (by decide) he hpl)
/-- list(seq): a new list -/
theorem dlistN {d0 : PyData} (hm : X.mg "list" = none) (h : PE X e (tV X.w B ρ (.pu d0))) (hd : isSeq d0 ds := by first | exact Or.inl rfl | exact Or.inr rfl) (hg : Gl X "list" := by rfl) (he : starEach (e :: []) X.env = (false, eval e X.env) :: starEach [] X.env := by rfl) (hpl : (backTo pos (starEach [] X.env)).any (·.1) = false := by rfl) :
    PE X (.Call (.Name "list" p) [e] [] pos) (tN X.w B ρ (.ol ds)) :=
  dbty call_list_of hm boot_list' (acons h anil he) (fun vs F H Q f o k => by
    obtain ⟨v, ev, ov⟩ := o.one
    obtain ⟨q, xs, ex, hq, r⟩ := seq_at (K := X.K) f ov hd
    exact ⟨q, xs, by rw [ev, ex], hq, fun t ht => k _ F _ (Gr.raw f ht) ⟨t, _, rfl, f.free ht, upd_same, r⟩ (nol ht)⟩) hg (by decide) (by decide) he hpl
/-- tuple(seq) -/
theorem dtuple {d0 : PyData} (hm : X.mg "tuple" = none) (h : PE X e (tV X.w B ρ (.pu d0))) (hd : isSeq d0 ds := by first | exact Or.inl rfl | exact Or.inr rfl) (hg : Gl X "tuple" := by rfl) (he : starEach (e :: []) X.env = (false, eval e X.env) :: starEach [] X.env := by rfl) (hpl : (backTo pos (starEach [] X.env)).any (·.1) = false := by rfl) :
    PE X (.Call (.Name "tuple" p) [e] [] pos) (tV X.w B ρ (.pu (.tuple ds))) :=
  dV (dbty call_tuple_of hm boot_tuple' (acons h anil he) (fun vs F H Q f o k => by
    obtain ⟨v, ev, ov⟩ := o.one
    rcases hd with rfl | rfl
    · obtain ⟨q, xs, ex, hq, r⟩ := Rp.list_inv ov
      exact ⟨q, xs, by rw [ev, ex], .inl ⟨SqL.of (f _ _ hq), fun t ht => k _ _ _ (Gr.new f ht) (Rp.tup upd_same (RpAll.mono (same_upd (f.free ht)) _ _ r)) npu⟩⟩
    · obtain ⟨q, xs, ex, hq, r⟩ := Rp.tuple_inv ov
      exact ⟨q, xs, by rw [ev, ex], .inr ⟨sqt_rd (rdm f hq), k _ F H (Gr.refl f) (by rw [← ex]; exact ov) npu⟩⟩) hg (by decide) (by decide) he hpl)
/-- tuple(xs), xs a list that may change later -/
theorem dtupleO (hm : X.mg "tuple" = none) (h : PE X e (tV X.w B ρ (.ol ds))) (hg : Gl X "tuple" := by rfl) (he : starEach (e :: []) X.env = (false, eval e X.env) :: starEach [] X.env := by rfl) (hpl : (backTo pos (starEach [] X.env)).any (·.1) = false := by rfl) :
    PE X (.Call (.Name "tuple" p) [e] [] pos) (tV X.w B ρ (.pu (.tuple ds))) :=
  dV (dbty call_tuple_of hm boot_tuple' (acons h anil he) (fun vs F H Q f o k => by
    obtain ⟨v, ev, q, xs, ex, _, hq, r⟩ := o.one
    exact ⟨q, xs, by rw [ev, ex], .inl ⟨SqL.of hq, fun t ht => k _ _ _ (Gr.new f ht) (Rp.tup upd_same (RpAll.mono (same_upd (f.free ht)) _ _ r)) npu⟩⟩) hg (by decide) (by decide) he hpl)
/-- the greatest, the least of a list of ints -/
def isMax (ns : List Int) (m : Int) : Prop := m ∈ ns ∧ ∀ y ∈ ns, y ≤ m
def isMin (ns : List Int) (m : Int) : Prop := m ∈ ns ∧ ∀ y ∈ ns, m ≤ y
theorem dmax {ns : List Int} {m : Int} (hc : X.calm = true) (hm : X.mg "max" = none) (h : PE X e (tV X.w B ρ (.pu (.list (ns.map .int))))) (hx : isMax ns m) (hg : Gl X "max" := by rfl) (he : starEach (e :: []) X.env = (false, eval e X.env) :: starEach [] X.env := by rfl) (hpl : (backTo pos (starEach [] X.env)).any (·.1) = false := by rfl) :
    PE X (.Call (.Name "max" p) [e] [] pos) (tV X.w B ρ (.pu (.int m))) :=
  dV (dblt (cr_max hc) hm boot_max' (acons h anil he) (fun vs F H Q f o k => by
    obtain ⟨v, ev, ov⟩ := o.one
    obtain ⟨q, xs, ex, hq, r⟩ := Rp.list_inv ov
    have exs := r.ints
    subst exs
    refine ⟨q, ns, by rw [ev, ex], SqL.of (f _ _ hq), List.length_pos_of_mem hx.1, fun m' h1 h2 => ?_⟩
    have e : m' = m := by have := hx.2 m' h1; have := h2 m hx.1; omega
    rw [e]
    exact k _ F H (Gr.refl f) (Rp.int _) npu) hg (by decide) (by decide) he hpl)
theorem dmin {ns : List Int} {m : Int} (hc : X.calm = true) (hm : X.mg "min" = none) (h : PE X e (tV X.w B ρ (.pu (.list (ns.map .int))))) (hx : isMin ns m) (hg : Gl X "min" := by rfl) (he : starEach (e :: []) X.env = (false, eval e X.env) :: starEach [] X.env := by rfl) (hpl : (backTo pos (starEach [] X.env)).any (·.1) = false := by rfl) :
    PE X (.Call (.Name "min" p) [e] [] pos) (tV X.w B ρ (.pu (.int m))) :=
  dV (dblt (cr_min hc) hm boot_min' (acons h anil he) (fun vs F H Q f o k => by
    obtain ⟨v, ev, ov⟩ := o.one
    obtain ⟨q, xs, ex, hq, r⟩ := Rp.list_inv ov
    have exs := r.ints
    subst exs
    refine ⟨q, ns, by rw [ev, ex], SqL.of (f _ _ hq), List.length_pos_of_mem hx.1, fun m' h1 h2 => ?_⟩
    have e : m' = m := by have := hx.2 m' h1; have := h2 m hx.1; omega
    rw [e]
    exact k _ F H (Gr.refl f) (Rp.int _) npu) hg (by decide) (by decide) he hpl)
theorem dall {bs : List Bool} (hc : X.calm = true) (hm : X.mg "all" = none) (h : PE X e (tV X.w B ρ (.pu (.list (bs.map .bool))))) (hg : Gl X "all" := by rfl) (he : starEach (e :: []) X.env = (false, eval e X.env) :: starEach [] X.env := by rfl) (hpl : (backTo pos (starEach [] X.env)).any (·.1) = false := by rfl) :
    PE X (.Call (.Name "all" p) [e] [] pos) (tV X.w B ρ (.pu (.bool (bs.all id)))) :=
  dV (dblt (cr_all hc) hm boot_all' (acons h anil he) (fun vs F H Q f o k => by
    obtain ⟨v, ev, ov⟩ := o.one
    obtain ⟨q, xs, ex, hq, r⟩ := Rp.list_inv ov
    have exs := r.bools
    subst exs
    exact ⟨q, bs, by rw [ev, ex], SqL.of (f _ _ hq), k _ F H (Gr.refl f) (Rp.bl _) npu⟩) hg (by decide) (by decide) he hpl)
theorem dany {bs : List Bool} (hc : X.calm = true) (hm : X.mg "any" = none) (h : PE X e (tV X.w B ρ (.pu (.list (bs.map .bool))))) (hg : Gl X "any" := by rfl) (he : starEach (e :: []) X.env = (false, eval e X.env) :: starEach [] X.env := by rfl) (hpl : (backTo pos (starEach [] X.env)).any (·.1) = false := by rfl) :
    PE X (.Call (.Name "any" p) [e] [] pos) (tV X.w B ρ (.pu (.bool (bs.any id)))) :=
  dV (dblt (cr_any hc) hm boot_any' (acons h anil he) (fun vs F H Q f o k => by
    obtain ⟨v, ev, ov⟩ := o.one
    obtain ⟨q, xs, ex, hq, r⟩ := Rp.list_inv ov
    have exs := r.bools
    subst exs
    exact ⟨q, bs, by rw [ev, ex], SqL.of (f _ _ hq), k _ F H (Gr.refl f) (Rp.bl _) npu⟩) hg (by decide) (by decide) he hpl)
/-- xs.count(n) -/
theorem dcount {ns : List Int} {n : Int} {x : Str} {apos cpos : Pos} (ho : PE X o (tV X.w B ρ (.pu (.list (ns.map .int))))) (h : PE X e (tV X.w B ρ (.pu (.int n))))
    (hbase : attributeBase o "count" X.env (eval o X.env) = eval o X.env := by rfl)
    (hfew : ((backTo cpos (starEach (e :: []) X.env)).all (fun x => !x.1) && (backToKw cpos (keywordEach [] X.env)).all (fun x => x.1.isSome) && decide ((e :: []).length + ([] : List Keyword).length + (if ([] : List Keyword).isEmpty then 0 else 1) < 30)) = true := by rfl)
    (hline : (apos.endLine == cpos.line) = true := by rfl) (hst : starEach (e :: []) X.env = (false, eval e X.env) :: starEach [] X.env := by rfl) (hplain : (backTo cpos (starEach [] X.env)).any (·.1) = false := by rfl) :
    PE X (.Call (.Attribute o "count" apos) [e] [] cpos) (tV X.w B ρ (.pu (.int (ns.count n : Nat)))) :=
  weakE (pe_bm PySem.F.plainAttrs_list PySem.F.slot_list_count PySem.F.type_list_count mt_lcount ho (pa_cons h pa_nil hst) hbase hfew hline hst hplain) fun σ H Q ⟨F, a, k⟩ => ⟨F, a, fun v F1 H1 g1 o1 => by
    obtain ⟨q, xs, ex, hq, r⟩ := Rp.list_inv o1
    have exs := r.ints
    subst exs ex
    exact ⟨.inl ⟨rfl, _, SqL.of (g1.fh _ _ hq)⟩, F1, a.grow g1, fun u F2 H2 g2 o2 => ⟨q, ns, n, rfl, by rw [Rp.int_inv o2], SqL.of (g2.fh _ _ (g2.f _ _ hq)), k _ F2 H2 (g1.trans g2) (Rp.int _)⟩⟩⟩
/-- isinstance -/
def isiD (T : String) (d : PyData) : Bool := (kitB (tyName d) T).getD false
theorem disi {T : String} {p2 : Pos} {c : Bool} (hm : X.mg "isinstance" = none) (h : PE X e (tV X.w B ρ (.pu d))) (hT : X.mg T = none) (hv : bootBuiltins T = some (.type T)) (hk : kitB (tyName d) T = some c) (hg : Gl X "isinstance" := by rfl) (hgT : Gl X T := by rfl) (hnT : (T : Str) ≠ "__name__" := by decide) (hdT : ((T : Str) == ("__debug__" : Str)) = false := by decide)
    (he : starEach (e :: [.Name T p2]) X.env = (false, eval e X.env) :: starEach [.Name T p2] X.env := by rfl) (he2 : starEach [.Name T p2] X.env = (false, eval (.Name T p2) X.env) :: starEach [] X.env := by rfl) (hpl : (backTo pos (starEach [.Name T p2] X.env)).any (·.1) = false := by rfl) :
    PE X (.Call (.Name "isinstance" p) [e, .Name T p2] [] pos) (tV X.w B ρ (.pu (.bool c))) :=
  weakE (pe_callB call_isi hg hm boot_isi' (pa_cons h (pa_cons (pe_bltn (v := .ty T) hgT hT hv rfl hnT hdT) pa_nil he2) he) (by decide) (by decide) he hpl) fun σ H Q ⟨F, a, k⟩ => ⟨F, a, fun v F1 H1 g o =>
    ⟨v, .ty T, _, _, c, rfl, .ty T, Rp.ty g.fh o, kit_ty hk, k _ F1 H1 g (Rp.bl c)⟩⟩
theorem disi2 {T U : String} {p2 p3 : Pos} {k2} {tpos : Pos} {c c2 : Bool} (hm : X.mg "isinstance" = none) (h : PE X e (tV X.w B ρ (.pu d))) (hT : X.mg T = none) (hv : bootBuiltins T = some (.type T)) (hU : X.mg U = none) (hvU : bootBuiltins U = some (.type U)) (hk : kitB (tyName d) T = some c) (hk2 : kitB (tyName d) U = some c2)
    (hg : Gl X "isinstance" := by rfl) (hgT : Gl X T := by rfl) (hnT : (T : Str) ≠ "__name__" := by decide) (hdT : ((T : Str) == ("__debug__" : Str)) = false := by decide) (hgU : Gl X U := by rfl) (hnU : (U : Str) ≠ "__name__" := by decide) (hdU : ((U : Str) == ("__debug__" : Str)) = false := by decide)
    (he : starEach (e :: [.Tuple [.Name T p2, .Name U p3] k2 tpos]) X.env = (false, eval e X.env) :: starEach [.Tuple [.Name T p2, .Name U p3] k2 tpos] X.env := by rfl) (he2 : starEach [.Tuple [.Name T p2, .Name U p3] k2 tpos] X.env = (false, eval (.Tuple [.Name T p2, .Name U p3] k2 tpos) X.env) :: starEach [] X.env := by rfl)
    (he3 : starEach [.Name T p2, .Name U p3] X.env = (false, eval (.Name T p2) X.env) :: starEach [.Name U p3] X.env := by rfl) (he4 : starEach [.Name U p3] X.env = (false, eval (.Name U p3) X.env) :: starEach [] X.env := by rfl)
    (hpl : (backTo pos (starEach [.Tuple [.Name T p2, .Name U p3] k2 tpos] X.env)).any (·.1) = false := by rfl) :
    PE X (.Call (.Name "isinstance" p) [e, .Tuple [.Name T p2, .Name U p3] k2 tpos] [] pos) (tV X.w B ρ (.pu (.bool (c || c2)))) :=
  weakE (pe_callB call_isiT hg hm boot_isi' (pa_cons h (pa_cons (pe_tup (pa_cons (pe_bltn (v := .ty T) hgT hT hv rfl hnT hdT) (pa_cons (pe_bltn (v := .ty U) hgU hU hvU rfl hnU hdU) pa_nil he4) he3)) pa_nil he2) he) (by decide) (by decide) he hpl) fun σ H Q ⟨F, a, k⟩ => ⟨F, a, fun v F1 H1 g o => by
    refine ⟨(by show 2 ≤ sizeLine; decide), fun t ht => ⟨v, t, [.ty T, .ty U], _, [.type T, .type U], c || c2, rfl, upd_same, .cons (.ty T) (.cons (.ty U) .nil), Rp.ty (fun b u q => same_upd ht b u (g.fh b u q)) o, ?_, k _ F1 _ (g.trans (Gr.raw g.fh ht)) (Rp.bl _)⟩⟩
    refine kitAny_cons (kit_ty hk) (fun e1 => ?_) (fun e1 => by rw [e1]; rfl)
    rw [e1]
    exact kitAny_cons (kit_ty hk2) (fun e2 => by rw [e2]; exact kitAny_nil) (fun e2 => by rw [e2]; rfl)⟩
end
end GY
namespace GY
open PySem PySem.Spec PyProof.Rows L2

/-! ## comparisons, as values (dC) and as tests (tC) -/
section
variable {X : Cx} {e a b o i : Expr} {pos : Pos} {B : Bs} {ρ ρ' : List Sl} {s s1 s2 : Sl} {d : PyData} {ds es : List PyData} {p : Pos} {op : CmpOp} {v : Bool}
theorem weakC {t t' : TE} (h : PC X op a b t) (i : ∀ σ H Q, t' σ H Q → t σ H Q) : PC X op a b t' := ⟨fun pins s σ H Q I q => h.run pins s σ H Q I (i σ H Q q)⟩
theorem pc_of {r : R2} {ta tb : TE} (ho : OpR X (compareOp op) r) (ha : PE X a ta) (hb : PE X b tb) : PC X op a b (tOp r ta tb) :=
  ⟨fun pins s σ H Q I h => binT ha hb I h fun v u s2 x y H2 I2 rx ry q => ho pins s2 σ H2 x y v u Q I2 rx ry q⟩
abbrev CB (X : Cx) (B : Bs) (ρ : List Sl) (op : CmpOp) (a b : Expr) (v : Bool) : Prop := PC X op a b (tV X.w B ρ (.pu (.bool v)))
theorem ccmp {r : R2} (ho : OpR X (compareOp op) r) (ha : PE X a (tV X.w B ρ s1)) (hb : PE X b (tV X.w B ρ s2)) (hr : DOp X.w r s1 s2 (.pu (.bool v))) : CB X B ρ op a b v :=
  weakC (pc_of ho ha hb) fun σ H Q ⟨F, a, k⟩ => seq2 (ta := tV X.w B ρ s1) (tb := tV X.w B ρ s2) hr ⟨F, a, fun u F' H' g o _ => k u F' H' g o⟩
theorem dC (h : CB X B ρ op a b v) (hm : behindInMarks op b = false := by first | exact nomark _ | rfl) : PE X (.Compare a [op] [b] pos) (tV X.w B ρ (.pu (.bool v))) := pe_cmp h hm
theorem tC (h : CB X B ρ op a b v) (hm : behindInMarks op b = false := by first | exact nomark _ | rfl) : PT X (.Compare a [op] [b] pos) (tT X.w B ρ v) := tcmpE h hm fun _ _ _ q => q
theorem ceqB (h : CB X B ρ op a b v) {u : Bool} (q : v = u) : CB X B ρ op a b u := by rw [← q]; exact h
section
variable {i j : Int}
theorem clt (ha : PE X a (tV X.w B ρ (.pu (.int i)))) (hb : PE X b (tV X.w B ρ (.pu (.int j)))) : CB X B ρ .Lt a b (decide (i < j)) := ccmp op_lt ha hb (op_I0 fun _ => .bl _)
theorem cle (ha : PE X a (tV X.w B ρ (.pu (.int i)))) (hb : PE X b (tV X.w B ρ (.pu (.int j)))) : CB X B ρ .LtE a b (decide (i ≤ j)) := ccmp op_le ha hb (op_I0 fun _ => .bl _)
theorem cgt (ha : PE X a (tV X.w B ρ (.pu (.int i)))) (hb : PE X b (tV X.w B ρ (.pu (.int j)))) : CB X B ρ .Gt a b (decide (j < i)) := ccmp op_gt ha hb (op_I0 fun _ => .bl _)
theorem cge (ha : PE X a (tV X.w B ρ (.pu (.int i)))) (hb : PE X b (tV X.w B ρ (.pu (.int j)))) : CB X B ρ .GtE a b (decide (j ≤ i)) := ccmp op_ge ha hb (op_I0 fun _ => .bl _)
theorem op_eqI {w : World} : DOp w rEq (.pu (.int i)) (.pu (.int j)) (.pu (.bool (decide (i = j)))) := fun x y F H Q f ox oy k => by
  have ex := Rp.int_inv ox
  have ey := Rp.int_inv oy
  subst ex ey
  refine ⟨rfl, ?_⟩
  have h : decide (V.int i = V.int j) = decide (i = j) := by
    by_cases q : i = j
    · subst q; simp
    · have : ¬ V.int i = V.int j := fun z => q (V.int.inj z)
      simp [q, this]
  rw [h]
  exact k _ F H (Gr.refl f) (Rp.bl _) npu
theorem op_neI {w : World} : DOp w rNe (.pu (.int i)) (.pu (.int j)) (.pu (.bool (!decide (i = j)))) := fun x y F H Q f ox oy k => by
  have ex := Rp.int_inv ox
  have ey := Rp.int_inv oy
  subst ex ey
  refine ⟨rfl, ?_⟩
  have h : decide (V.int i = V.int j) = decide (i = j) := by
    by_cases q : i = j
    · subst q; simp
    · have : ¬ V.int i = V.int j := fun z => q (V.int.inj z)
      simp [q, this]
  rw [h]
  exact k _ F H (Gr.refl f) (Rp.bl _) npu
/-- two ints -/
theorem ceqI (ha : PE X a (tV X.w B ρ (.pu (.int i)))) (hb : PE X b (tV X.w B ρ (.pu (.int j)))) : CB X B ρ .Eq a b (decide (i = j)) := ccmp op_eq ha hb op_eqI
theorem cneI (ha : PE X a (tV X.w B ρ (.pu (.int i)))) (hb : PE X b (tV X.w B ρ (.pu (.int j)))) : CB X B ρ .NotEq a b (!decide (i = j)) := ccmp op_ne ha hb op_neI
/-- data -/
theorem ceqD {n : Nat} (hr : Room n X.A) {d e : PyData} (ha : PE X a (tV X.w B ρ (.pu d))) (hb : PE X b (tV X.w B ρ (.pu e))) (sd : SeqAt.shaped d = true) (se : SeqAt.shaped e = true) : CB X B ρ .Eq a b (PyData.eqv d e) := ccmp (op_eqD hr.units) ha hb (op_eqW sd se)
theorem cneD {n : Nat} (hr : Room n X.A) {d e : PyData} (ha : PE X a (tV X.w B ρ (.pu d))) (hb : PE X b (tV X.w B ρ (.pu e))) (sd : SeqAt.shaped d = true) (se : SeqAt.shaped e = true) : CB X B ρ .NotEq a b (!PyData.eqv d e) := ccmp (op_neD hr.units) ha hb (op_neW sd se)
theorem cin {ns : List Int} {d : PyData} (ha : PE X a (tV X.w B ρ (.pu (.int i)))) (hb : PE X b (tV X.w B ρ (.pu d))) (hd : isSeq d (ns.map .int) := by first | exact Or.inl rfl | exact Or.inr rfl) : CB X B ρ .In a b (decide (i ∈ ns)) := ccmp op_in_seq ha hb (op_inI hd false)
theorem cnin {ns : List Int} {d : PyData} (ha : PE X a (tV X.w B ρ (.pu (.int i)))) (hb : PE X b (tV X.w B ρ (.pu d))) (hd : isSeq d (ns.map .int) := by first | exact Or.inl rfl | exact Or.inr rfl) : CB X B ρ .NotIn a b (!decide (i ∈ ns)) := ccmp op_notIn_seq ha hb (op_inI hd true)
theorem cninO {ns : List Int} (ha : PE X a (tV X.w B ρ (.pu (.int i)))) (hb : PE X b (tV X.w B ρ (.ol (ns.map .int)))) : CB X B ρ .NotIn a b (!decide (i ∈ ns)) := ccmp op_notIn_seq ha hb (op_inO true)
end
theorem cinD {n : Nat} (hr : Room n X.A) {d : PyData} {ds : List PyData} (ha : PE X a (tV X.w B ρ (.pu d))) (hb : PE X b (tV X.w B ρ (.pu (.list ds)))) (sd : SeqAt.shaped d = true) (ss : SeqAt.shaped (.list ds) = true) : CB X B ρ .In a b (ds.any fun z => PyData.eqv z d) :=
  ccmp (op_inD (by have := hr.un; omega)) ha hb (op_inL sd ss)
theorem cdin {n : Nat} {kvs : List (List Int × PyData)} {k : List Int} (hr : Room n X.A) (hi : PE X i (tV X.w B ρ (.kt k))) (ho : PE X o (tV X.w B ρ (.od kvs))) : CB X B ρ .In i o (dGet kvs k).isSome := weakC (pc_din (hu_of hr) hi ho) fun σ H Q q => in_dict (neg := false) q
theorem cdnin {n : Nat} {kvs : List (List Int × PyData)} {k : List Int} (hr : Room n X.A) (hi : PE X i (tV X.w B ρ (.kt k))) (ho : PE X o (tV X.w B ρ (.od kvs))) : CB X B ρ .NotIn i o (!(dGet kvs k).isSome) := weakC (pc_dnotin (hu_of hr) hi ho) fun σ H Q q => in_dict (neg := true) q
/-- ints in a set -/
theorem csin {n : Int} {S : Int → Bool} {m : Nat} (ha : PE X a (tV X.w B ρ (.pu (.int n)))) (hb : PE X b (tV X.w B ρ (.ss S m))) : CB X B ρ .In a b (S n) :=
  ccmp or_sin ha hb fun x y F H Q f ox oy k => by
    obtain ⟨q, ey, hq⟩ := oy
    exact ⟨n, q, S, m, Rp.int_inv ox, ey, f _ _ hq, k _ F H (Gr.refl f) (Rp.bl _) npu⟩
theorem csnin {n : Int} {S : Int → Bool} {m : Nat} (ha : PE X a (tV X.w B ρ (.pu (.int n)))) (hb : PE X b (tV X.w B ρ (.ss S m))) : CB X B ρ .NotIn a b (!S n) :=
  ccmp or_snotin ha hb fun x y F H Q f ox oy k => by
    obtain ⟨q, ey, hq⟩ := oy
    exact ⟨n, q, S, m, Rp.int_inv ox, ey, f _ _ hq, k _ F H (Gr.refl f) (Rp.bl _) npu⟩
/-- truth values -/
theorem op_neB {w : World} {i j : Bool} : DOp w rNe (.pu (.bool i)) (.pu (.bool j)) (.pu (.bool (!decide (i = j)))) := fun x y F H Q f ox oy k => by
  have ex := Rp.bool_inv ox
  have ey := Rp.bool_inv oy
  subst ex ey
  refine ⟨rfl, ?_⟩
  have h : decide (V.bl i = V.bl j) = decide (i = j) := by cases i <;> cases j <;> rfl
  rw [h]
  exact k _ F H (Gr.refl f) (Rp.bl _) npu
theorem op_eqB {w : World} {i j : Bool} : DOp w rEq (.pu (.bool i)) (.pu (.bool j)) (.pu (.bool (decide (i = j)))) := fun x y F H Q f ox oy k => by
  have ex := Rp.bool_inv ox
  have ey := Rp.bool_inv oy
  subst ex ey
  refine ⟨rfl, ?_⟩
  have h : decide (V.bl i = V.bl j) = decide (i = j) := by cases i <;> cases j <;> rfl
  rw [h]
  exact k _ F H (Gr.refl f) (Rp.bl _) npu
theorem cneB {i j : Bool} (ha : PE X a (tV X.w B ρ (.pu (.bool i)))) (hb : PE X b (tV X.w B ρ (.pu (.bool j)))) : CB X B ρ .NotEq a b (!decide (i = j)) := ccmp op_ne ha hb op_neB
theorem ceqBo {i j : Bool} (ha : PE X a (tV X.w B ρ (.pu (.bool i)))) (hb : PE X b (tV X.w B ρ (.pu (.bool j)))) : CB X B ρ .Eq a b (decide (i = j)) := ccmp op_eq ha hb op_eqB
end
end GY
namespace GY
open PySem PySem.Spec PyProof.Rows L2 PySem.W

/-! ## sorted of data -/
/-- without lists and dicts -/
def noList : PyData → Bool
  | .none => true
  | .bool _ => true
  | .int _ => true
  | .str _ => true
  | .list _ => false
  | .tuple xs => noLists xs
  | .dict _ => false
where noLists : List PyData → Bool
  | [] => true
  | x :: xs => noList x && noLists xs
mutual
theorem nX_noList : ∀ d : PyData, noList d = true → nX d = true
  | .none, _ => rfl
  | .bool _, _ => rfl
  | .int _, _ => rfl
  | .str _, _ => rfl
  | .list _, h => by simp [noList] at h
  | .tuple xs, h => by rw [nX]; exact nXs_noList xs (by simpa [noList] using h)
  | .dict _, h => by simp [noList] at h
theorem nXs_noList : ∀ ds : List PyData, noList.noLists ds = true → nX.nXs ds = true
  | [], _ => rfl
  | d :: ds, h => by
    rw [noList.noLists, Bool.and_eq_true] at h
    rw [nX.nXs, nX_noList d h.1, nXs_noList ds h.2]
    rfl
end
mutual
theorem reads_none {h : Heap} : ∀ (d : PyData) (v : Value) (as : List Addr), noList d = true → Reads h v d as → as = []
  | .none, _, _, _, r => by cases r; rfl
  | .bool _, _, _, _, r => by cases r; rfl
  | .int _, _, _, _, r => by cases r; rfl
  | .str _, _, _, _, r => by cases r; rfl
  | .list _, _, _, n, _ => by simp [noList] at n
  | .tuple xs, _, _, n, r => by
    cases r with
    | tuple h1 h2 h3 h4 => exact readsAll_none xs _ _ (by simpa [noList] using n) h4
  | .dict _, _, _, n, _ => by simp [noList] at n
theorem readsAll_none {h : Heap} : ∀ (ds : List PyData) (vs : List Value) (as : List Addr), noList.noLists ds = true → ReadsAll h vs ds as → as = []
  | [], _, _, _, r => by cases r; rfl
  | d :: ds, _, _, n, r => by
    cases r with
    | cons h1 h2 =>
      rw [noList.noLists, Bool.and_eq_true] at n
      rw [reads_none d _ _ n.1 h1, readsAll_none ds _ _ n.2 h2]
      rfl
end
theorem noLists_mem : ∀ {ds : List PyData}, noList.noLists ds = true → ∀ d ∈ ds, noList d = true
  | [], _, d, h => by cases h
  | x :: xs, n, d, h => by
    rw [noList.noLists, Bool.and_eq_true] at n
    rcases List.mem_cons.mp h with rfl | h
    · exact n.1
    · exact noLists_mem n.2 d h
/-- the values with what they read as -/
theorem each_zip {X : Cx} {pins : List (Addr × Obj)} {σ : L2.St} {H : Hp} {s : Shared} (I : Inv X pins σ H s) : ∀ {vs : List V} {ds : List PyData} {us : List Value}, DpAll X.K H vs ds → Vals vs us →
    EachIs (fun (u : Value) (b : V × PyData) => RelV b.1 u) us (vs.zip ds) ∧ EachIs (fun (u : Value) (b : V × PyData) => ∃ as, Reads s.heap u b.2 as) us (vs.zip ds) ∧ (vs.zip ds).map Prod.snd = ds
  | _, _, _, .nil, .nil => ⟨.nil, .nil, rfl⟩
  | _, _, _, .cons h1 h2, .cons r1 r2 => by
    obtain ⟨e1, e2, e3⟩ := each_zip I h2 r2
    exact ⟨.cons r1 e1, .cons (Dp.reads I _ _ _ h1 r1) e2, by rw [List.zip_cons_cons, List.map_cons, e3]⟩
theorem each_vals : ∀ {us : List Value} {ps : List (V × PyData)}, EachIs (fun (u : Value) (b : V × PyData) => RelV b.1 u) us ps → Vals (ps.map Prod.fst) us
  | _, _, .nil => .nil
  | _, _, .cons h t => .cons h (each_vals t)
theorem sort_is {ds es : List PyData} (hp : es.Perm ds) (hs : es.Pairwise (fun a b => dataLt a b = true)) : ds.mergeSort (dataLe false id) = es := by
  have go : ∀ (es m : List PyData), m.Perm es → m.Pairwise (fun a b => dataLe false id a b = true) → es.Pairwise (fun a b => dataLt a b = true) → m = es := by
    intro es
    induction es with
    | nil => intro m h _ _; exact h.eq_nil
    | cons e es ih =>
      intro m h h1 h2
      cases m with
      | nil => exact absurd h.length_eq (by simp)
      | cons p m =>
        have e1 : p = e := by
          have hp : p ∈ e :: es := h.mem_iff.mp List.mem_cons_self
          rcases List.mem_cons.mp hp with z | z
          · exact z
          · have he : e ∈ p :: m := h.mem_iff.mpr List.mem_cons_self
            rcases List.mem_cons.mp he with y | y
            · exact y.symm
            · have t1 : dataLt e p = true := (List.pairwise_cons.mp h2).1 p z
              have t2 : (!dataLt e p) = true := (List.pairwise_cons.mp h1).1 e y
              rw [t1] at t2
              cases t2
        subst e1
        rw [ih m (List.perm_cons _ |>.mp h) (List.pairwise_cons.mp h1).2 (List.pairwise_cons.mp h2).2]
  exact go es _ ((List.mergeSort_perm _ _).trans hp.symm) (sort_pairwise (sortLe_total (listOrd itemOrd) false fun b => keyToks (id b)) ds) hs
/-- what sorted gives of data without equal ones -/
structure SortOk (ds es : List PyData) : Prop where
  nl : noList.noLists ds = true
  al : AllAlike ds
  so : Sortable ds
  dep : ∀ d ∈ ds, d.depth ≤ 50
  len : ds.length ≤ 1000
  perm : es.Perm ds
  lt : es.Pairwise (fun a b => dataLt a b = true)
theorem rpAll_pairs {F : Hp} : ∀ {ps : List (V × PyData)}, (∀ p ∈ ps, Rp F p.1 p.2) → RpAll F (ps.map Prod.fst) (ps.map Prod.snd)
  | [], _ => .nil
  | p :: ps, h => .cons (h p List.mem_cons_self) (rpAll_pairs fun q hq => h q (List.mem_cons_of_mem _ hq))
theorem rpAll_zip {F : Hp} : ∀ {vs : List V} {ds : List PyData}, RpAll F vs ds → ∀ p ∈ vs.zip ds, Rp F p.1 p.2
  | _, _, .nil, p, h => by cases h
  | _, _, .cons r t, p, h => by
    rcases List.mem_cons.mp h with rfl | h
    · exact r
    · exact rpAll_zip t p h
/-- what a value is collected to: items that stand for ds -/
def CollD (X : Cx) (F H : Hp) (x : V) (ds : List PyData) : Prop :=
  ∀ (pins : List (Addr × Obj)) (s : Shared) (σ : L2.St) (u : Value) (Q : List Value → Shared → Prop) (E : Value → Shared → Prop), Inv X pins σ H s → RelV x u →
    (∀ us s' F' H' vs, Inv X pins σ H' s' → Gr F H F' H' → Vals vs us → RpAll F' vs ds → Q us s') → wpAny (model X.prog X.w) X.A.in1 (collect u) Q E s
theorem coll_list {X : Cx} {F H : Hp} {a : Addr} {vs : List V} {ds : List PyData} (f : Same F H) (h : SqL X.K H a vs) (r : RpAll F vs ds) : CollD X F H (.ref a) ds := fun pins s σ u Q E I ru q => by
  cases ru
  obtain ⟨its, rv, ⟨o, n, ho, hc, _, hd⟩, hz⟩ := I.list h
  exact wpAny_collect_seq a (.inl rfl) ho hc hd (fun h' k => q _ { s with heap := h' } F H vs (I.kept (t' := s.toks) k) (Gr.refl f) (by simpa using rv) r) (by rw [List.size_toArray, ← rv.length]; exact hz)
theorem coll_tup {X : Cx} {F H : Hp} {a : Addr} {vs : List V} {ds : List PyData} (f : Same F H) (h : SqT X.K H a vs) (r : RpAll F vs ds) : CollD X F H (.ref a) ds := fun pins s σ u Q E I ru q => by
  cases ru
  obtain ⟨its, rv, ⟨o, ho, hc, n, hd⟩, hz⟩ := I.tuple h
  exact wpAny_collect_seq a (.inr rfl) ho hc hd (fun h' k => q _ { s with heap := h' } F H vs (I.kept (t' := s.toks) k) (Gr.refl f) (by simpa using rv) r) (by rw [List.size_toArray, ← rv.length]; exact hz)
/-- sorted(x), x collected to data -/
def rSortD (X : Cx) : List V → Hp → VK → Prop := fun xs H Q => ∃ (x : V) (F : Hp) (ds es : List PyData), xs = [x] ∧ CollD X F H x ds ∧ SortOk ds es ∧
  ∀ v F' H', Gr F H F' H' → VOk X.w F' H' v (.ol es) → (∀ a, (Sl.ol es).own = true → v = .ref a → H a = none) → Q v H'
theorem cr_sortD {X : Cx} {k : Nat} (hr : Room k X.A) : CallR X (.builtin "sorted") (rSortD X) := by
  intro pins s σ H xs us Q I r h
  obtain ⟨x, F, ds, es, rfl, hc, G, q⟩ := h
  obtain ⟨u, rfl, rx⟩ := vals1 r
  refine call_function_entry_kw kind_sorted plain_sorted entry_sorted (args_sorted1 _) ?_
  unfold Builtin.«sorted»
  refine wpAny_bind (m := checkCount "sorted" 1 1 _) (wpAny_pure ?_)
  refine wpAny_bind (hc pins s σ u _ _ I rx fun us' s1 F1 H1 vs I1 g1 rv r1 => ?_)
  have hd : DpAll X.K H1 vs ds := RpAll.dp X.K _ _ (nXs_noList _ G.nl) (RpAll.mono g1.fh _ _ r1)
  have len1 : vs.length = us'.length := rv.length
  have len2 : vs.length = ds.length := r1.length
  have hL := G.len
  have hL' : us'.length ≤ sizeLine := Nat.le_of_lt (small1000 (by omega))
  refine wpAny_bind (wpAny_newList ?_ hL')
  obtain ⟨e1, e2, e3⟩ := each_zip I1 hd rv
  have ez : (vs.zip ds).length = ds.length := by rw [List.length_zip]; omega
  have k2 : ∀ b o, s1.heap.get? b = some o → (s1.heap.push { cls := .type "list", data := .seq us'.toArray }).get? b = some o := fun b o e => Heap.get?_push_of_some _ e
  have ho : (s1.heap.push { cls := .type "list", data := .seq us'.toArray }).get? s1.heap.objs.size = some (seqObj "list" us'.toArray 0) := Heap.get?_push_size _ rfl
  refine wpAny_bind (wpAny_holding (list_sort_data (A := X.A.in1) (s := { s1 with heap := s1.heap.push { cls := .type "list", data := .seq us'.toArray } }) (enc := Prod.snd) (bs := vs.zip ds) (R := fun (u : Value) (b : V × PyData) => RelV b.1 u) ho e1 ?_ (by rw [e3]; exact G.al) (by rw [e3]; exact G.so) (by rw [ez]; exact Nat.le_of_lt (small1000 hL)) (fun b hb => ?_) fun out hout eo => ?_))
  · refine (each_mem e2).mono fun v b ⟨⟨as, r⟩, hb⟩ => ?_
    have hmem : b.2 ∈ ds := by rw [← e3]; exact List.mem_map_of_mem hb
    have ha := reads_none _ _ _ (noLists_mem G.nl _ hmem) r
    subst ha
    exact ⟨[], Reads.keeps k2 r, by simp⟩
  · have hmem : b.2 ∈ ds := by rw [← e3]; exact List.mem_map_of_mem hb
    have h1 := G.dep _ hmem
    have h2 := hr.un
    show X.A.units + 1 + 1 + b.2.depth < cLine
    omega
  · have hfin : ∀ b o, s1.heap.get? b = some o → (sortedHeap (s1.heap.push { cls := .type "list", data := .seq us'.toArray }) s1.heap.objs.size us' (List.toArray out)).get? b = some o := fun b o e => by
      rw [sortedHeap_old (Nat.ne_of_lt (Heap.lt_size e)) (by rw [Heap.size_push]; exact Nat.lt_succ_of_lt (Heap.lt_size e))]
      exact k2 b o e
    obtain ⟨c, hc2⟩ := sortedHeap_at (out := List.toArray out) ho
    have pm : ((vs.zip ds).mergeSort (dataLe false Prod.snd)).Perm (vs.zip ds) := List.mergeSort_perm _ _
    have mm : ((vs.zip ds).mergeSort (dataLe false Prod.snd)).map Prod.snd = ds.mergeSort (dataLe false id) := by
      have t := sort_maps (r := dataLe false Prod.snd) (s := dataLe false id) Prod.snd (l := vs.zip ds) (fun _ _ _ _ => rfl)
      rw [e3] at t
      exact t
    have hf : H1 s1.heap.objs.size = none := I1.hok.fresh (Nat.le_refl _)
    have hv := each_vals eo
    rw [sort_is G.perm G.lt] at mm
    refine wpAny_pure ⟨_, rfl, .ref s1.heap.objs.size, _, I1.laid (t' := s1.toks) (o := .lst (((vs.zip ds).mergeSort (dataLe false Prod.snd)).map Prod.fst)) hfin (Nat.le_refl _) ?_, rfl, q _ F1 _ (g1.trans (Gr.raw g1.fh hf)) ⟨_, _, rfl, g1.fh.free hf, upd_same, ?_⟩ (nol (g1.h.free hf))⟩
    · refine ⟨?_, out, c, hv, hc2⟩
      rw [hv.length, hout, ez]
      exact Nat.le_of_lt (small1000 hL)
    · rw [← mm]
      exact rpAll_pairs fun q hq => rpAll_zip r1 q (pm.mem_iff.mp hq)
section
variable {X : Cx} {e a b o i : Expr} {pos : Pos} {B : Bs} {ρ ρ' : List Sl} {s s1 s2 : Sl} {d : PyData} {ds es : List PyData} {p : Pos}
theorem dsorted {n : Nat} {d0 : PyData} (hr : Room n X.A) (hm : X.mg "sorted" = none) (h : PE X e (tV X.w B ρ (.pu d0))) (g : SortOk ds es) (hd : isSeq d0 ds := by first | exact Or.inl rfl | exact Or.inr rfl) (hg : Gl X "sorted" := by rfl) (he : starEach (e :: []) X.env = (false, eval e X.env) :: starEach [] X.env := by rfl) (hpl : (backTo pos (starEach [] X.env)).any (·.1) = false := by rfl) :
    PE X (.Call (.Name "sorted" p) [e] [] pos) (tN X.w B ρ (.ol es)) :=
  dblt (cr_sortD hr) hm boot_sorted' (acons h anil he) (fun vs F H Q f o k => by
    obtain ⟨v, ev, ov⟩ := o.one
    subst ev
    rcases hd with rfl | rfl
    · obtain ⟨q, xs, ex, hq, r⟩ := Rp.list_inv ov
      subst ex
      exact ⟨_, F, ds, es, rfl, coll_list f (SqL.of (f _ _ hq)) r, g, k⟩
    · obtain ⟨q, xs, ex, hq, r⟩ := Rp.tuple_inv ov
      subst ex
      exact ⟨_, F, ds, es, rfl, coll_tup f (sqt_rd (rdm f hq)) r, g, k⟩) hg (by decide) (by decide) he hpl
theorem dsortedO {n : Nat} (hr : Room n X.A) (hm : X.mg "sorted" = none) (h : PE X e (tV X.w B ρ (.ol ds))) (g : SortOk ds es) (hg : Gl X "sorted" := by rfl) (he : starEach (e :: []) X.env = (false, eval e X.env) :: starEach [] X.env := by rfl) (hpl : (backTo pos (starEach [] X.env)).any (·.1) = false := by rfl) :
    PE X (.Call (.Name "sorted" p) [e] [] pos) (tN X.w B ρ (.ol es)) :=
  dblt (cr_sortD hr) hm boot_sorted' (acons h anil he) (fun vs F H Q f o k => by
    obtain ⟨v, ev, q, xs, ex, _, hq, r⟩ := o.one
    subst ev ex
    exact ⟨_, F, ds, es, rfl, coll_list f (SqL.of hq) r, g, k⟩) hg (by decide) (by decide) he hpl
end
end GY
namespace GY
open PySem PySem.Spec PyProof.Rows L2

/-! ## itertools.combinations, itertools.permutations: facts of the types -/
theorem mro_co : mroOf (.type "itertools.combinations") = pure [.type "itertools.combinations", .type "object"] := by rw [mroOf_type]; kernel_rfl
theorem new_co : typeLookup (.type "itertools.combinations") "__new__" = pure (some (.builtin "itertools.combinations.__new__")) := by rw [typeLookup_type, builtinLookup_eq_fast]; kernel_rfl
theorem init_co : Slot "itertools.combinations" "__init__" "object.__init__" :=
  .of (owner := "object") (n := "__init__") (by rw [typeLookup_type, builtinLookup_eq_fast]; kernel_rfl) (by decide +kernel) (by decide +kernel) (by decide +kernel)
    (by first | exact .inl (by decide +kernel) | exact .inr (by decide +kernel)) (by rw [isSubtype_type]; kernel_rfl)
theorem sub_co : isSubtype (.type "itertools.combinations") (.type "itertools.combinations") = pure true := by rw [isSubtype_type]; kernel_rfl
theorem called_co : TypeCalled "itertools.combinations" "itertools.combinations.__new__" "object.__init__" :=
  ⟨by decide +kernel, by decide +kernel, ⟨_, _, mro_co⟩, madeBy_type mro_co new_co (by decide +kernel), by decide +kernel, sub_co, init_co⟩
theorem tcall_co (a b : Value) : checkTypeCall "itertools.combinations" ⟨[a, b], []⟩ = pure () := by kernel_rfl
theorem ncall_co (a b : Value) : checkBuiltinCall "itertools.combinations.__new__" ⟨[.type "itertools.combinations", a, b], []⟩ = pure () := by kernel_rfl
theorem entry_co_new : entryFor table "itertools.combinations.__new__" = some Builtin.«itertools.combinations.__new__» := entryFor_of_tree (by kernel_rfl)
theorem slot_co_iter : Slot "itertools.combinations" "__iter__" "itertools.combinations.__iter__" :=
  .of (owner := "itertools.combinations") (n := "__iter__") (by rw [typeLookup_type, builtinLookup_eq_fast]; kernel_rfl) (by decide +kernel) (by decide +kernel) (by decide +kernel)
    (by first | exact .inl (by decide +kernel) | exact .inr (by decide +kernel)) sub_co
theorem slot_co_next : Slot "itertools.combinations" "__next__" "itertools.combinations.__next__" :=
  .of (owner := "itertools.combinations") (n := "__next__") (by rw [typeLookup_type, builtinLookup_eq_fast]; kernel_rfl) (by decide +kernel) (by decide +kernel) (by decide +kernel)
    (by first | exact .inl (by decide +kernel) | exact .inr (by decide +kernel)) sub_co
theorem entry_co_iter : entryFor table "itertools.combinations.__iter__" = some Builtin.«dict_keyiterator.__iter__» :=
  entryFor_alias (id' := "dict_keyiterator.__iter__") (by kernel_rfl) (by first | rfl | decide +kernel | (unfold String.splitOn; simp +decide [String.splitOnAux])) (by decide +kernel) (by kernel_rfl)
theorem entry_co_next : entryFor table "itertools.combinations.__next__" = some Builtin.«itertools.combinations.__next__» := entryFor_of_tree (by kernel_rfl)
theorem owner_co : Manifest.owners.lookup (String.ofList "itertools.combinations".toList.reverse.reverse) = some Manifest.sig_itertools_combinations := by kernel_rfl
theorem args_co_iter (a : Value) : argsOk "itertools.combinations.__iter__" ⟨[a], []⟩ := by
  unfold argsOk; rw [signature?_of (id := "itertools.combinations.__iter__") (n := "__iter__".toList.reverse) (o := "itertools.combinations".toList.reverse) (by kernel_rfl) owner_co]; kernel_rfl
theorem args_co_next (a : Value) : argsOk "itertools.combinations.__next__" ⟨[a], []⟩ := by
  unfold argsOk; rw [signature?_of (id := "itertools.combinations.__next__") (n := "__next__".toList.reverse) (o := "itertools.combinations".toList.reverse) (by kernel_rfl) owner_co]; kernel_rfl
theorem nodict_co : typeHasDict (.type "itertools.combinations") = false := by decide +kernel
theorem mro_pe : mroOf (.type "itertools.permutations") = pure [.type "itertools.permutations", .type "object"] := by rw [mroOf_type]; kernel_rfl
theorem new_pe : typeLookup (.type "itertools.permutations") "__new__" = pure (some (.builtin "itertools.permutations.__new__")) := by rw [typeLookup_type, builtinLookup_eq_fast]; kernel_rfl
theorem init_pe : Slot "itertools.permutations" "__init__" "object.__init__" :=
  .of (owner := "object") (n := "__init__") (by rw [typeLookup_type, builtinLookup_eq_fast]; kernel_rfl) (by decide +kernel) (by decide +kernel) (by decide +kernel)
    (by first | exact .inl (by decide +kernel) | exact .inr (by decide +kernel)) (by rw [isSubtype_type]; kernel_rfl)
theorem sub_pe : isSubtype (.type "itertools.permutations") (.type "itertools.permutations") = pure true := by rw [isSubtype_type]; kernel_rfl
theorem called_pe : TypeCalled "itertools.permutations" "itertools.permutations.__new__" "object.__init__" :=
  ⟨by decide +kernel, by decide +kernel, ⟨_, _, mro_pe⟩, madeBy_type mro_pe new_pe (by decide +kernel), by decide +kernel, sub_pe, init_pe⟩
theorem tcall_pe (a : Value) : checkTypeCall "itertools.permutations" ⟨[a], []⟩ = pure () := by kernel_rfl
theorem ncall_pe (a : Value) : checkBuiltinCall "itertools.permutations.__new__" ⟨[.type "itertools.permutations", a], []⟩ = pure () := by kernel_rfl
theorem entry_pe_new : entryFor table "itertools.permutations.__new__" = some Builtin.«itertools.permutations.__new__» := entryFor_of_tree (by kernel_rfl)
theorem slot_pe_iter : Slot "itertools.permutations" "__iter__" "itertools.permutations.__iter__" :=
  .of (owner := "itertools.permutations") (n := "__iter__") (by rw [typeLookup_type, builtinLookup_eq_fast]; kernel_rfl) (by decide +kernel) (by decide +kernel) (by decide +kernel)
    (by first | exact .inl (by decide +kernel) | exact .inr (by decide +kernel)) sub_pe
theorem slot_pe_next : Slot "itertools.permutations" "__next__" "itertools.permutations.__next__" :=
  .of (owner := "itertools.permutations") (n := "__next__") (by rw [typeLookup_type, builtinLookup_eq_fast]; kernel_rfl) (by decide +kernel) (by decide +kernel) (by decide +kernel)
    (by first | exact .inl (by decide +kernel) | exact .inr (by decide +kernel)) sub_pe
theorem entry_pe_iter : entryFor table "itertools.permutations.__iter__" = some Builtin.«dict_keyiterator.__iter__» :=
  entryFor_alias (id' := "dict_keyiterator.__iter__") (by kernel_rfl) (by first | rfl | decide +kernel | (unfold String.splitOn; simp +decide [String.splitOnAux])) (by decide +kernel) (by kernel_rfl)
theorem entry_pe_next : entryFor table "itertools.permutations.__next__" = some Builtin.«itertools.permutations.__next__» := entryFor_of_tree (by kernel_rfl)
theorem owner_pe : Manifest.owners.lookup (String.ofList "itertools.permutations".toList.reverse.reverse) = some Manifest.sig_itertools_permutations := by kernel_rfl
theorem args_pe_iter (a : Value) : argsOk "itertools.permutations.__iter__" ⟨[a], []⟩ := by
  unfold argsOk; rw [signature?_of (id := "itertools.permutations.__iter__") (n := "__iter__".toList.reverse) (o := "itertools.permutations".toList.reverse) (by kernel_rfl) owner_pe]; kernel_rfl
theorem args_pe_next (a : Value) : argsOk "itertools.permutations.__next__" ⟨[a], []⟩ := by
  unfold argsOk; rw [signature?_of (id := "itertools.permutations.__next__") (n := "__next__".toList.reverse) (o := "itertools.permutations".toList.reverse) (by kernel_rfl) owner_pe]; kernel_rfl
theorem nodict_pe : typeHasDict (.type "itertools.permutations") = false := by decide +kernel
end GY
namespace GY
open PySem PySem.Spec PyProof.Rows L2

def coData (pool : Addr) (st : Int) (last : Value) (idx : List Nat) : Data := .fields ([Value.ref pool, rawInt st, last] ++ idx.map fun (i : Nat) => rawInt (i : Int)).toArray
def IsCo (h : Heap) (it pool : Addr) (st : Int) (idx : List Nat) : Prop := ∃ last, h.get? it = some { cls := .type "itertools.combinations", dict := none, data := coData pool st last idx, slots := #[] }
theorem bind_co (a b : Value) : Builtin.Itertools.itBindNamed "combinations" ["iterable", "r"] 2 2 [a, b] [] = pure [some a, some b] := by kernel_rfl
theorem ssize_co (k : Nat) (t : Tok) (hk : k ≤ 100) : Builtin.Itertools.itSsizeArg (.int (k : Int) t) = pure (k : Int) := by
  have h1 : decide ((k : Int) < -2 ^ 63) = false := decide_eq_false (by omega)
  have h2 : decide ((k : Int) ≥ 2 ^ 63) = false := decide_eq_false (by omega)
  show (if (decide ((k : Int) < -2 ^ 63) || decide ((k : Int) ≥ 2 ^ 63)) = true then _ else pure (k : Int)) = pure (k : Int)
  rw [h1, h2]
  rfl
theorem isType_co : isType (.type "itertools.combinations") = pure true := by first | rfl | kernel_rfl
theorem isType_pe : isType (.type "itertools.permutations") = pure true := by first | rfl | kernel_rfl
section
variable {prog : Program} {w : World} {A : Around} {E : Value → Shared → Prop} {s : Shared}
theorem wp_class {T short : String} {rest : List Value} {Q : Value × List Value → Shared → Prop} (h1 : isType (.type T) = pure true) (h2 : isSubtype (.type T) (.type ("itertools." ++ short)) = pure true) (h : Q (.type T, rest) s) :
    wpAny (model prog w) A (Builtin.Itertools.itClassAndRest short ⟨.type T :: rest, []⟩) Q E s := by
  unfold Builtin.Itertools.itClassAndRest
  refine wpAny_bind (wpAny_of_eq h1 ?_)
  try dsimp only
  try rw [if_neg (by decide)]
  refine wpAny_bind (wpAny_of_eq h2 ?_)
  try dsimp only
  try rw [if_neg (by decide)]
  exact wpAny_pure h
/-- a new record of a class without a dict -/
theorem wp_record {T : String} {fs : List Value} {Q : Value → Shared → Prop} (hd : typeHasDict (.type T) = false) (hl : fs.length ≤ 1000) (h : Q (.ref s.heap.objs.size) { s with heap := s.heap.push { cls := .type T, data := .fields fs.toArray } }) :
    wpAny (model prog w) A (Builtin.Itertools.itNewRecord (.type T) fs) Q E s := by
  unfold Builtin.Itertools.itNewRecord
  rw [hd, if_pos (by decide)]
  refine wpAny_newObj_type h ?_
  show _
  simp [sizeOk]
  rw [sizeLine_eq]
  omega
end
section
variable {prog : Program} {w : World} {A : Around} {E : Value → Shared → Prop} {s : Shared}
theorem meets_co_new (r : Addr) (n : Nat) (k : Nat) (t : Tok) (hn : n ≤ 100) (hk : k ≤ n) :
    Meets (Builtin.«itertools.combinations.__new__» ⟨[.type "itertools.combinations", .ref r, .int (k : Int) t], []⟩)
      (fun A R s => A.handled = none ∧ (∃ t u v, IsRange s.heap r 0 (n : Int) 1 t u v) ∧ ∀ (h' : Heap) (tk : Nat) (acc : Array Value), (∀ b o, s.heap.get? b = some o → h'.get? b = some o) → ItemsOf (fun i v => ∃ t, v = .int (0 + (i : Int) * 1) t) acc n →
        R (.ok (.ret (.ref (h'.objs.size + 1)))) { s with heap := (h'.push { cls := .type "tuple", data := .seq acc }).push { cls := .type "itertools.combinations", data := coData h'.objs.size 0 .none (List.range k) }, toks := tk }) :=
  .of_wp fun prog w A R s ⟨hh, ⟨t1, u1, v1, hr⟩, h⟩ => by
    unfold Builtin.«itertools.combinations.__new__»
    refine wpAny_bind ?_
    wp_delta
    refine wpAny_bind (wp_class isType_co sub_co ?_)
    try dsimp only
    refine wpAny_bind (wpAny_of_eq (bind_co _ _) ?_)
    try dsimp only
    refine wpAny_bind (wpAny_of_eq (ssize_co k t (by omega)) ?_)
    try dsimp only
    refine wpAny_bind (collect_range (A := A.in1) (n := n) hh hr (small_one (by omega) (by omega) (by omega) (by omega)) (by rw [rangeSize_one]; split <;> omega) (by omega) fun h' tk acc hk hi => ?_)
    have hlen : acc.toList.length = n := by rw [Array.length_toList]; exact hi.1
    rw [if_neg (show ¬ (k : Int) < 0 by omega), if_neg (show ¬ Builtin.Itertools.itTooMany (k : Int) = true by
      unfold Builtin.Itertools.itTooMany
      rw [decide_eq_false (by omega)]
      exact Bool.false_ne_true)]
    refine wpAny_bind (wpAny_newTuple ?_ (by rw [hlen]; exact Nat.le_of_lt (small1000 (by omega))))
    refine wpAny_pure ?_
    try dsimp only
    refine wpAny_bind (wp_record nodict_co ?_ ?_)
    · simp
      omega
    refine wpAny_pure ⟨_, rfl, ?_⟩
    have hz : (if (k : Int).toNat > acc.toList.length then (2 : Int) else 0) = 0 := by rw [if_neg]; rw [hlen]; omega
    have e1 : ({ cls := .type "itertools.combinations", data := .fields (([Value.ref h'.objs.size, rawInt (if (k : Int).toNat > acc.toList.length then (2 : Int) else 0), Value.none] ++ (List.range (k : Int).toNat).map fun (i : Nat) => rawInt (i : Int)).toArray) } : Obj) = { cls := .type "itertools.combinations", data := coData h'.objs.size 0 .none (List.range k) } := by
      rw [hz]
      rfl
    have := h h' tk acc hk hi
    rw [← e1] at this
    rw [Heap.size_push]
    simpa using this
end
end GY
namespace GY
open PySem PySem.Spec PyProof.Rows L2

section
variable {prog : Program} {w : World} {A : Around} {E : Value → Shared → Prop} {s : Shared}
theorem wp_intField {it : Addr} {o : Obj} {fs : Array Value} {i : Nat} {n : Int} {t : Tok} {Q : Int → Shared → Prop} (ho : s.heap.get? it = some o) (hd : o.data = .fields fs) (hi : fs[i]? = some (.int n t)) (h : Q n s) :
    wpAny (model prog w) A (Builtin.Itertools.itIntField (.ref it) i) Q E s := by
  unfold Builtin.Itertools.itIntField
  exact wpAny_bind (wpAny_field ho hd hi (wpAny_pure h))
theorem wp_pool {p : Addr} {items : Array Value} {Q : Array Value → Shared → Prop} (hp : IsTup s.heap p items) (h : Q items s) : wpAny (model prog w) A (Builtin.Itertools.itPoolItems (.ref p)) Q E s := by
  obtain ⟨o, ho, hc, n, hd⟩ := hp
  unfold Builtin.Itertools.itPoolItems
  refine wpAny_bind ?_
  unfold seqItems?
  refine wpAny_bind (wpAny_load ho ?_)
  rw [hd]
  exact wpAny_pure (wpAny_pure h)
theorem wp_numbers {it : Addr} {o : Obj} {fs : Array Value} {i : Nat} {idx : List Nat} {Q : List Nat → Shared → Prop} (ho : s.heap.get? it = some o) (hd : o.data = .fields fs) (hi : fs.toList.drop i = idx.map fun (i : Nat) => rawInt (i : Int)) (h : Q idx s) :
    wpAny (model prog w) A (Builtin.Itertools.itNumbersFrom (.ref it) i) Q E s := by
  unfold Builtin.Itertools.itNumbersFrom
  refine wpAny_bind (wpAny_load ho ?_)
  rw [hd]
  refine wpAny_pure ?_
  rw [hi, List.map_map, List.map_congr_left (g := id) (fun i _ => by show ((i : Int)).toNat = i; omega), List.map_id]
  exact h
theorem wp_setNumbers {it : Addr} {o : Obj} {fs fs' : Array Value} {i : Nat} {idx : List Nat} {Q : Unit → Shared → Prop} (ho : s.heap.get? it = some o) (hd : o.data = .fields fs) (hf : fs.extract 0 i ++ (idx.map fun (n : Nat) => rawInt (n : Int)).toArray = fs') (hl : fs'.size ≤ 1000)
    (h : Q () { s with heap := s.heap.update it (Obj.mapFields fun fs => fs.extract 0 i ++ (idx.map fun (n : Nat) => rawInt (n : Int)).toArray) }) :
    wpAny (model prog w) A (Builtin.Itertools.itSetNumbersFrom (.ref it) i idx) Q E s := by
  unfold Builtin.Itertools.itSetNumbersFrom updateFields
  refine wpAny_bind (wpAny_load ho ?_)
  rw [hd]
  dsimp only
  refine wpAny_bind (wpAny_update ho ?_)
  have ho2 := Heap.get?_update_self (Obj.mapFields fun fs => fs.extract 0 i ++ (idx.map fun (n : Nat) => rawInt (n : Int)).toArray) ho (Obj.isFreed_of_fields (Obj.data_mapFields hd _))
  refine wpAny_lookBehind (s := { s with heap := s.heap.update it _ }) ho2 ?_ h
  rw [Obj.data_mapFields hd]
  show (if (fs.extract 0 i ++ (idx.map fun (n : Nat) => rawInt (n : Int)).toArray).size > sizeLine + 3 then some "record:memory" else none) = none
  rw [hf, if_neg]
  rw [sizeLine_eq]
  omega
theorem wp_stop {α : Type} {Q : α → Shared → Prop} (hh : A.handled = none)
    (h : ∀ (e : Value) (h' : Heap), (∀ b o, s.heap.get? b = some o → h'.get? b = some o) → ({ s with heap := h' } : Shared).TypeIs e "StopIteration" → E e { s with heap := h' }) : wpAny (model prog w) A (Builtin.Itertools.itStop : Sem α) Q E s := by
  unfold Builtin.Itertools.itStop
  refine wpAny_bind ?_
  simp only [newExc, newTuple]
  refine wpAny_bind (wpAny_newObj_type ?_ (by size_fits))
  refine wpAny_bind (m := firstArgMember _ _) (wpAny_of_eq (a := Value.none) (by first | rfl | (simp only [firstArgMember]; rfl)) ?_)
  refine wpAny_newObj_type ?_ (by size_fits)
  simp only [raiseNew]
  refine wpAny_bind (wpAny_handled ?_)
  rw [hh]
  refine wpAny_bind (wpAny_pure (wpAny_throw ?_))
  refine h _ _ (fun b o e => ?_) ⟨_, Heap.get?_push_size _ rfl, rfl⟩
  exact Heap.get?_push_of_some _ (Heap.get?_push_of_some _ e)
end

/-! ## combinations -/
def coObj (pool : Addr) (st : Int) (last : Value) (idx : List Nat) : Obj := { cls := .type "itertools.combinations", dict := none, data := coData pool st last idx, slots := #[] }
def AtCo (h : Heap) (it pool : Addr) (st : Int) (idx : List Nat) : Prop := ∃ last, h.get? it = some (coObj pool st last idx)
theorem co_drop (pool : Addr) (st : Int) (last : Value) (idx : List Nat) : (([Value.ref pool, rawInt st, last] ++ idx.map fun (i : Nat) => rawInt (i : Int)).toArray).toList.drop 3 = idx.map fun (i : Nat) => rawInt (i : Int) := by simp
theorem co_upd1 (pool : Addr) (st st' : Int) (last : Value) (idx : List Nat) : Obj.mapFields (fun x => x.setIfInBounds 1 (rawInt st')) (coObj pool st last idx) = coObj pool st' last idx := by
  simp [coObj, coData, Obj.mapFields]
theorem co_upd2 (pool : Addr) (st : Int) (last last' : Value) (idx : List Nat) : Obj.mapFields (fun x => x.setIfInBounds 2 last') (coObj pool st last idx) = coObj pool st last' idx := by
  simp [coObj, coData, Obj.mapFields]
theorem co_upd3 (pool : Addr) (st : Int) (last : Value) (idx idx' : List Nat) : Obj.mapFields (fun fs => fs.extract 0 3 ++ (idx'.map fun (n : Nat) => rawInt (n : Int)).toArray) (coObj pool st last idx) = coObj pool st last idx' := by
  simp [coObj, coData, Obj.mapFields]
section
variable {prog : Program} {w : World} {A : Around} {E : Value → Shared → Prop} {s : Shared}
end
/-- the next tuple's handing out, when the object stands at st, idx -/
theorem co_hand {prog : Program} {w : World} {A : Around} {E : Value → Shared → Prop} {s : Shared} {it : Addr} {pool : Addr} {st : Int} {us : List Value} {idx : List Nat} {Q : Fin → Shared → Prop} (hit : AtCo s.heap it pool st idx)
    (hQ : ∀ h' r, h'.get? r = some { cls := .type "tuple", data := .seq us.toArray } → s.heap.objs.size ≤ r → AtCo h' it pool st idx → (∀ b o, b ≠ it → s.heap.get? b = some o → h'.get? b = some o) → Q (.done (.ret (.ref r))) { s with heap := h' }) :
    wpAny (model prog w) A (do
      let before ← field (.ref it) 2
      setField (.ref it) 2 (.ref s.heap.objs.size)
      letGo [before] [.ref s.heap.objs.size]
      ret (.ref s.heap.objs.size)) Q E { s with heap := s.heap.push { cls := .type "tuple", data := .seq us.toArray } } := by
  obtain ⟨last, ho⟩ := hit
  have ho1 : (s.heap.push { cls := .type "tuple", data := .seq us.toArray }).get? it = some (coObj pool st last idx) := Heap.get?_push_of_some _ ho
  refine wpAny_bind (wpAny_field (s := { s with heap := s.heap.push _ }) ho1 rfl (x := last) rfl ?_)
  refine wpAny_bind (wpAny_setField (s := { s with heap := s.heap.push _ }) ho1 rfl (by simp [coObj, coData]) ?_)
  refine wpAny_bind (wpAny_letGo ?_)
  have hn : it ≠ s.heap.objs.size := Nat.ne_of_lt (Heap.lt_size ho)
  refine wpAny_pure (hQ _ s.heap.objs.size ?_ (Nat.le_refl _) ⟨.ref s.heap.objs.size, ?_⟩ fun b o hb e => ?_)
  · exact (Heap.get?_update_other _ _ hn).trans (Heap.get?_push_size _ rfl)
  · have := Heap.get?_update_self (Obj.mapFields fun x => x.setIfInBounds 2 (Value.ref s.heap.objs.size)) ho1 (by rfl)
    rw [co_upd2] at this
    exact this
  · exact (Heap.get?_update_other _ _ (Ne.symm hb)).trans (Heap.get?_push_of_some _ e)
theorem upd_size {h : Heap} {a : Addr} {f : Obj → Obj} : (h.update a f).objs.size = h.objs.size := by simp [Heap.update]
/-- the step's table, checked -/
def chain (step : Nat → List Nat → Option (List Nat)) (n : Nat) : List (List Nat) → Bool
  | [] => false
  | [x] => (step n x).isNone
  | x :: y :: r => (decide (step n x = some y)) && chain step n (y :: r)
def co22 : List (Nat × List (List Nat)) :=
  [(2, [[0], [1]]), (2, [[0, 1]]), (3, [[0], [1], [2]]), (3, [[0, 1], [0, 2], [1, 2]]), (3, [[0, 1, 2]]),
   (4, [[0], [1], [2], [3]]), (4, [[0, 1], [0, 2], [0, 3], [1, 2], [1, 3], [2, 3]]), (4, [[0, 1, 2], [0, 1, 3], [0, 2, 3], [1, 2, 3]]), (4, [[0, 1, 2, 3]])]
theorem co_next_ex : ∃ step : Nat → List Nat → Option (List Nat), co22.all (fun t => chain step t.1 t.2) = true ∧
    ∀ {prog : Program} {w : World} {A : Around} {E : Value → Shared → Prop} {s : Shared} {it pool : Addr} {items : Array Value} {idx : List Nat} {Q : Option Value → Shared → Prop}, IsTup s.heap pool items → it ≠ pool → A.handled = none → idx.length ≤ 100 →
      (AtCo s.heap it pool 0 idx → (∀ h' r, h'.get? r = some { cls := .type "tuple", data := .seq (idx.map fun i => items.getD i .none).toArray } → s.heap.objs.size ≤ r → AtCo h' it pool 1 idx → (∀ b o, b ≠ it → s.heap.get? b = some o → h'.get? b = some o) → Q (some (.ref r)) { s with heap := h' }) → wpAny (model prog w) A (pyNext (.ref it)) Q E s) ∧
      (∀ idx', AtCo s.heap it pool 1 idx → idx'.length ≤ 100 → step items.size idx = some idx' → (∀ h' r, h'.get? r = some { cls := .type "tuple", data := .seq (idx'.map fun i => items.getD i .none).toArray } → s.heap.objs.size ≤ r → AtCo h' it pool 1 idx' → (∀ b o, b ≠ it → s.heap.get? b = some o → h'.get? b = some o) → Q (some (.ref r)) { s with heap := h' }) → wpAny (model prog w) A (pyNext (.ref it)) Q E s) ∧
      (AtCo s.heap it pool 1 idx → step items.size idx = none → (∀ h', (∀ b o, b ≠ it → s.heap.get? b = some o → h'.get? b = some o) → Q none { s with heap := h' }) → wpAny (model prog w) A (pyNext (.ref it)) Q E s) := by
  apply Exists.intro
  refine And.intro ?tab ?wp
  case wp =>
    intro prog w A E s it pool items idx Q hp hne hh hl
    refine ⟨fun hit hQ => ?_, fun idx' hit hl' hs hQ => ?_, fun hit hs hQ => ?_⟩
    all_goals
      obtain ⟨last, ho⟩ := id hit
      have hT : s.TypeIs (.ref it) "itertools.combinations" := ⟨_, ho, rfl⟩
      unfold pyNext
      refine wpAny_bind (wpAny_attempt (wpAny_callSpecial?_slot (name := Str.ofString "__next__") hT slot_co_next
        (wpAny_call_entry slot_co_next hT entry_co_next ?_ (args_co_next _))))
      unfold Builtin.«itertools.combinations.__next__»
      wp_delta
      refine wpAny_bind (wpAny_of_eq (a := (Value.ref it, [])) rfl ?_)
      try dsimp only
      refine wpAny_bind (wpAny_field ho rfl (x := .ref pool) rfl ?_)
      try dsimp only
      refine wpAny_bind (wp_numbers ho rfl (co_drop _ _ _ _) ?_)
      refine wpAny_bind (wp_intField ho rfl (n := _) (t := 0) rfl ?_)
      try dsimp only
    · refine wpAny_bind (wpAny_setField ho rfl (by simp [coObj, coData]) ?_)
      have ho2 := Heap.get?_update_self (Obj.mapFields fun x => x.setIfInBounds 1 (rawInt 1)) ho (by rfl)
      rw [co_upd1] at ho2
      have hp2 : IsTup (s.heap.update it (Obj.mapFields fun x => x.setIfInBounds 1 (rawInt 1))) pool items := hp.extBut (b := it) (fun b o hb e => (Heap.get?_update_other _ _ (Ne.symm hb)).trans e) (Ne.symm hne)
      refine wpAny_bind ?_
      wp_delta
      refine wpAny_bind (wp_pool (s := { s with heap := s.heap.update it _ }) hp2 ?_)
      refine wpAny_newTuple ?_ (by rw [List.length_map]; exact Nat.le_of_lt (small1000 (by omega)))
      exact co_hand (s := { s with heap := s.heap.update it _ }) ⟨_, ho2⟩ fun h' r hr hz ha hk => ⟨_, rfl, wpAny_pure (hQ h' r hr (by rw [← upd_size]; exact hz) ha fun b o hb e => hk b o hb ((Heap.get?_update_other _ _ (Ne.symm hb)).trans e))⟩
    · refine wpAny_bind (wp_pool hp ?_)
      split
      · rename_i next heq
        have hn := heq.symm.trans hs
        cases hn
        refine wpAny_bind (wp_setNumbers (i := 3) ho rfl rfl (by simp [coData, List.size_toArray]; omega) ?_)
        have ho2 := Heap.get?_update_self (Obj.mapFields fun fs => fs.extract 0 3 ++ (idx'.map fun (n : Nat) => rawInt (n : Int)).toArray) ho (by rfl)
        rw [co_upd3] at ho2
        have hp2 : IsTup (s.heap.update it (Obj.mapFields fun fs => fs.extract 0 3 ++ (idx'.map fun (n : Nat) => rawInt (n : Int)).toArray)) pool items := hp.extBut (b := it) (fun b o hb e => (Heap.get?_update_other _ _ (Ne.symm hb)).trans e) (Ne.symm hne)
        refine wpAny_bind ?_
        wp_delta
        refine wpAny_bind (wp_pool (s := { s with heap := s.heap.update it _ }) hp2 ?_)
        refine wpAny_newTuple ?_ (by rw [List.length_map]; exact Nat.le_of_lt (small1000 (by omega)))
        exact co_hand (s := { s with heap := s.heap.update it _ }) ⟨_, ho2⟩ fun h' r hr hz ha hk => ⟨_, rfl, wpAny_pure (hQ h' r hr (by rw [← upd_size]; exact hz) ha fun b o hb e => hk b o hb ((Heap.get?_update_other _ _ (Ne.symm hb)).trans e))⟩
      · rename_i heq
        have hn := heq.symm.trans hs
        cases hn
    · refine wpAny_bind (wp_pool hp ?_)
      split
      · rename_i next heq
        have hn := heq.symm.trans hs
        cases hn
      · refine wpAny_bind (wpAny_setField ho rfl (by simp [coObj, coData]) ?_)
        refine wp_stop (s := { s with heap := s.heap.update it _ }) hh fun e h' hk ht => ?_
        refine wpAny_bind (wpAny_isInstance (s := { s with heap := h' }) (T := "StopIteration") (b := true) ht isSubtype_stop ?_)
        refine wpAny_pure (hQ _ fun b o hb e => hk b o ((Heap.get?_update_other _ _ (Ne.symm hb)).trans e))
  case tab => decide +kernel

/-! ## permutations -/
def peObj (pool : Addr) (st : Int) (r : Nat) (last : Value) (nums : List Nat) : Obj := { cls := .type "itertools.permutations", dict := none, data := .fields ([Value.ref pool, rawInt st, rawInt (r : Int), last] ++ nums.map fun (i : Nat) => rawInt (i : Int)).toArray, slots := #[] }
def AtPe (h : Heap) (it pool : Addr) (st : Int) (r : Nat) (nums : List Nat) : Prop := ∃ last, h.get? it = some (peObj pool st r last nums)
theorem pe_drop (pool : Addr) (st : Int) (r : Nat) (last : Value) (idx : List Nat) : (([Value.ref pool, rawInt st, rawInt (r : Int), last] ++ idx.map fun (i : Nat) => rawInt (i : Int)).toArray).toList.drop 4 = idx.map fun (i : Nat) => rawInt (i : Int) := by simp
theorem pe_upd1 (pool : Addr) (st st' : Int) (r : Nat) (last : Value) (idx : List Nat) : Obj.mapFields (fun x => x.setIfInBounds 1 (rawInt st')) (peObj pool st r last idx) = peObj pool st' r last idx := by
  simp [peObj, Obj.mapFields]
theorem pe_upd3 (pool : Addr) (st : Int) (r : Nat) (last last' : Value) (idx : List Nat) : Obj.mapFields (fun x => x.setIfInBounds 3 last') (peObj pool st r last idx) = peObj pool st r last' idx := by
  simp [peObj, Obj.mapFields]
theorem pe_upd4 (pool : Addr) (st : Int) (r : Nat) (last : Value) (idx idx' : List Nat) : Obj.mapFields (fun fs => fs.extract 0 4 ++ (idx'.map fun (n : Nat) => rawInt (n : Int)).toArray) (peObj pool st r last idx) = peObj pool st r last idx' := by
  simp [peObj, Obj.mapFields]
theorem pe_hand {prog : Program} {w : World} {A : Around} {E : Value → Shared → Prop} {s : Shared} {it : Addr} {pool : Addr} {st : Int} {r : Nat} {us : List Value} {idx : List Nat} {Q : Fin → Shared → Prop} (hit : AtPe s.heap it pool st r idx)
    (hQ : ∀ h' p, h'.get? p = some { cls := .type "tuple", data := .seq us.toArray } → s.heap.objs.size ≤ p → AtPe h' it pool st r idx → (∀ b o, b ≠ it → s.heap.get? b = some o → h'.get? b = some o) → Q (.done (.ret (.ref p))) { s with heap := h' }) :
    wpAny (model prog w) A (do
      let before ← field (.ref it) 3
      setField (.ref it) 3 (.ref s.heap.objs.size)
      letGo [before] [.ref s.heap.objs.size]
      ret (.ref s.heap.objs.size)) Q E { s with heap := s.heap.push { cls := .type "tuple", data := .seq us.toArray } } := by
  obtain ⟨last, ho⟩ := hit
  have ho1 : (s.heap.push { cls := .type "tuple", data := .seq us.toArray }).get? it = some (peObj pool st r last idx) := Heap.get?_push_of_some _ ho
  refine wpAny_bind (wpAny_field (s := { s with heap := s.heap.push _ }) ho1 rfl (x := last) rfl ?_)
  refine wpAny_bind (wpAny_setField (s := { s with heap := s.heap.push _ }) ho1 rfl (by simp [peObj]) ?_)
  refine wpAny_bind (wpAny_letGo ?_)
  have hn : it ≠ s.heap.objs.size := Nat.ne_of_lt (Heap.lt_size ho)
  refine wpAny_pure (hQ _ s.heap.objs.size ?_ (Nat.le_refl _) ⟨.ref s.heap.objs.size, ?_⟩ fun b o hb e => ?_)
  · exact (Heap.get?_update_other _ _ hn).trans (Heap.get?_push_size _ rfl)
  · have := Heap.get?_update_self (Obj.mapFields fun x => x.setIfInBounds 3 (Value.ref s.heap.objs.size)) ho1 (by rfl)
    rw [pe_upd3] at this
    exact this
  · exact (Heap.get?_update_other _ _ (Ne.symm hb)).trans (Heap.get?_push_of_some _ e)
/-- the numbers of the places in turn: indices, then cycles -/
def chainP (step : Nat → Nat → List Nat → List Nat → Option (List Nat × List Nat)) (n : Nat) : List (List Nat) → Bool
  | [] => false
  | [x] => (step n n (x.take n) (x.drop n)).isNone
  | x :: y :: r => (decide (step n n (x.take n) (x.drop n) = some (y.take n, y.drop n))) && chainP step n (y :: r)
def peS : Nat → List (List Nat)
  | 2 => [[0, 1, 2, 1], [1, 0, 1, 1]]
  | 3 => [[0, 1, 2, 3, 2, 1], [0, 2, 1, 3, 1, 1], [1, 0, 2, 2, 2, 1], [1, 2, 0, 2, 1, 1], [2, 0, 1, 1, 2, 1], [2, 1, 0, 1, 1, 1]]
  | 4 => [[0, 1, 2, 3, 4, 3, 2, 1], [0, 1, 3, 2, 4, 3, 1, 1], [0, 2, 1, 3, 4, 2, 2, 1], [0, 2, 3, 1, 4, 2, 1, 1], [0, 3, 1, 2, 4, 1, 2, 1], [0, 3, 2, 1, 4, 1, 1, 1], [1, 0, 2, 3, 3, 3, 2, 1], [1, 0, 3, 2, 3, 3, 1, 1], [1, 2, 0, 3, 3, 2, 2, 1], [1, 2, 3, 0, 3, 2, 1, 1], [1, 3, 0, 2, 3, 1, 2, 1], [1, 3, 2, 0, 3, 1, 1, 1], [2, 0, 1, 3, 2, 3, 2, 1], [2, 0, 3, 1, 2, 3, 1, 1], [2, 1, 0, 3, 2, 2, 2, 1], [2, 1, 3, 0, 2, 2, 1, 1], [2, 3, 0, 1, 2, 1, 2, 1], [2, 3, 1, 0, 2, 1, 1, 1], [3, 0, 1, 2, 1, 3, 2, 1], [3, 0, 2, 1, 1, 3, 1, 1], [3, 1, 0, 2, 1, 2, 2, 1], [3, 1, 2, 0, 1, 2, 1, 1], [3, 2, 0, 1, 1, 1, 2, 1], [3, 2, 1, 0, 1, 1, 1, 1]]
  | _ => []
theorem pe_next_ex : ∃ step : Nat → Nat → List Nat → List Nat → Option (List Nat × List Nat), ([2, 3, 4].all fun n => chainP step n (peS n)) = true ∧
    ∀ {prog : Program} {w : World} {A : Around} {E : Value → Shared → Prop} {s : Shared} {it pool : Addr} {items : Array Value} {r : Nat} {idx : List Nat} {Q : Option Value → Shared → Prop}, IsTup s.heap pool items → it ≠ pool → A.handled = none → idx.length ≤ 100 →
      (AtPe s.heap it pool 0 r idx → (∀ h' p, h'.get? p = some { cls := .type "tuple", data := .seq ((idx.take r).map fun i => items.getD i .none).toArray } → s.heap.objs.size ≤ p → AtPe h' it pool 1 r idx → (∀ b o, b ≠ it → s.heap.get? b = some o → h'.get? b = some o) → Q (some (.ref p)) { s with heap := h' }) → wpAny (model prog w) A (pyNext (.ref it)) Q E s) ∧
      (∀ ix cy, AtPe s.heap it pool 1 r idx → (ix ++ cy).length ≤ 100 → step items.size r (idx.take items.size) (idx.drop items.size) = some (ix, cy) → (∀ h' p, h'.get? p = some { cls := .type "tuple", data := .seq ((ix.take r).map fun i => items.getD i .none).toArray } → s.heap.objs.size ≤ p → AtPe h' it pool 1 r (ix ++ cy) → (∀ b o, b ≠ it → s.heap.get? b = some o → h'.get? b = some o) → Q (some (.ref p)) { s with heap := h' }) → wpAny (model prog w) A (pyNext (.ref it)) Q E s) ∧
      (AtPe s.heap it pool 1 r idx → step items.size r (idx.take items.size) (idx.drop items.size) = none → (∀ h', (∀ b o, b ≠ it → s.heap.get? b = some o → h'.get? b = some o) → Q none { s with heap := h' }) → wpAny (model prog w) A (pyNext (.ref it)) Q E s) := by
  apply Exists.intro
  refine And.intro ?tab ?wp
  case wp =>
    intro prog w A E s it pool items r idx Q hp hne hh hl
    refine ⟨fun hit hQ => ?_, fun ix cy hit hl' hs hQ => ?_, fun hit hs hQ => ?_⟩
    all_goals
      obtain ⟨last, ho⟩ := id hit
      have hT : s.TypeIs (.ref it) "itertools.permutations" := ⟨_, ho, rfl⟩
      unfold pyNext
      refine wpAny_bind (wpAny_attempt (wpAny_callSpecial?_slot (name := Str.ofString "__next__") hT slot_pe_next
        (wpAny_call_entry slot_pe_next hT entry_pe_next ?_ (args_pe_next _))))
      unfold Builtin.«itertools.permutations.__next__»
      refine wpAny_bind (wpAny_of_eq (a := (Value.ref it, [])) rfl ?_)
      try dsimp only
      refine wpAny_bind (wpAny_field ho rfl (x := .ref pool) rfl ?_)
      refine wpAny_bind (wp_pool hp ?_)
      try dsimp only
      refine wpAny_bind (wp_intField ho rfl (n := (r : Int)) (t := 0) rfl ?_)
      try dsimp only
      refine wpAny_bind (wp_numbers ho rfl (pe_drop _ _ _ _ _) ?_)
      refine wpAny_bind (wp_intField ho rfl (n := _) (t := 0) rfl ?_)
      try dsimp only
    · refine wpAny_bind (wpAny_setField ho rfl (by simp [peObj]) ?_)
      have ho2 := Heap.get?_update_self (Obj.mapFields fun x => x.setIfInBounds 1 (rawInt 1)) ho (by rfl)
      rw [pe_upd1] at ho2
      refine wpAny_bind (wpAny_newTuple ?_ (by rw [List.length_map, List.length_take]; exact Nat.le_of_lt (small1000 (by omega))))
      exact pe_hand (s := { s with heap := s.heap.update it _ }) ⟨_, ho2⟩ fun h' p hr hz ha hk => ⟨_, rfl, wpAny_pure (hQ h' p hr (by rw [← upd_size]; exact hz) ha fun b o hb e => hk b o hb ((Heap.get?_update_other _ _ (Ne.symm hb)).trans e))⟩
    · split
      case h_1 h => exact absurd h (by decide)
      case h_3 h1 h2 => exact (h2 rfl).elim
      split
      · rename_i ix' cy' heq
        have hn := heq.symm.trans hs
        cases hn
        refine wpAny_bind (wp_setNumbers (i := 4) ho rfl rfl (by simp [List.size_toArray]; rw [List.length_append] at hl'; omega) ?_)
        have ho2 := Heap.get?_update_self (Obj.mapFields fun fs => fs.extract 0 4 ++ ((ix ++ cy).map fun (n : Nat) => rawInt (n : Int)).toArray) ho (by rfl)
        rw [pe_upd4] at ho2
        refine wpAny_bind (wpAny_newTuple ?_ (by rw [List.length_append] at hl'; rw [List.length_map, List.length_take]; exact Nat.le_of_lt (small1000 (by omega))))
        exact pe_hand (s := { s with heap := s.heap.update it _ }) ⟨_, ho2⟩ fun h' p hr hz ha hk => ⟨_, rfl, wpAny_pure (hQ h' p hr (by rw [← upd_size]; exact hz) ha fun b o hb e => hk b o hb ((Heap.get?_update_other _ _ (Ne.symm hb)).trans e))⟩
      · rename_i heq
        have hn := heq.symm.trans hs
        cases hn
    · split
      case h_1 h => exact absurd h (by decide)
      case h_3 h1 h2 => exact (h2 rfl).elim
      split
      · rename_i ix' cy' heq
        have hn := heq.symm.trans hs
        cases hn
      · refine wpAny_bind (wpAny_setField ho rfl (by simp [peObj]) ?_)
        refine wp_stop (s := { s with heap := s.heap.update it _ }) hh fun e h' hk ht => ?_
        refine wpAny_bind (wpAny_isInstance (s := { s with heap := h' }) (T := "StopIteration") (b := true) ht isSubtype_stop ?_)
        refine wpAny_pure (hQ _ fun b o hb e => hk b o ((Heap.get?_update_other _ _ (Ne.symm hb)).trans e))
  case tab => decide +kernel
end GY
namespace GY
open PySem PySem.Spec PyProof.Rows L2

abbrev nI (l : List Nat) : List Int := l.map fun (j : Nat) => (j : Int)
def ItN (L : List (List Nat)) : It := ⟨fun i _ => i < L.length, fun i H x H' => ∃ T l, x = .ref T ∧ H T = none ∧ L[i]? = some l ∧ H' = upd H T (.tup ((nI l).map V.int)), fun i _ => L.length ≤ i⟩
theorem yld_N {F : Hp} {L : List (List Nat)} : Yld F (ItN L) (L.map fun l => dI (nI l)) where
  go := fun i F1 H1 e f hi => by
    have h : i < L.length := by simpa using hi
    exact h
  stop := fun F1 H1 e f => by
    have h : L.length ≤ (L.map fun l => dI (nI l)).length := by simp
    exact h
  yld := fun i F1 H1 x H' d e f hd ⟨T, l, ex, hT, hl, eH⟩ => by
    subst ex eH
    rw [List.getElem?_map, hl] at hd
    cases hd
    exact ⟨_, Gr.new f hT, Rp.tup upd_same (RpAll.of_ints _)⟩
theorem chain_at {step : Nat → List Nat → Option (List Nat)} {n : Nat} : ∀ {L : List (List Nat)} {i : Nat} {x y : List Nat}, chain step n L = true → L[i]? = some x → L[i + 1]? = some y → step n x = some y
  | [], _, _, _, h, _, _ => by cases h
  | [x], _, _, _, _, _, h => by simp at h
  | a :: b :: r, 0, x, y, h, hx, hy => by
    simp only [chain, Bool.and_eq_true, decide_eq_true_eq] at h
    simp at hx hy
    subst hx hy
    exact h.1
  | a :: b :: r, i + 1, x, y, h, hx, hy => by
    simp only [chain, Bool.and_eq_true, decide_eq_true_eq] at h
    exact chain_at (L := b :: r) (i := i) h.2 (by simpa using hx) (by simpa using hy)
theorem chain_end {step : Nat → List Nat → Option (List Nat)} {n : Nat} : ∀ {L : List (List Nat)} {i : Nat} {x : List Nat}, chain step n L = true → L[i]? = some x → L.length ≤ i + 1 → step n x = none
  | [], _, _, h, _, _ => by cases h
  | [a], 0, x, h, hx, _ => by
    simp only [chain] at h
    simp at hx
    subst hx
    cases e : step n a with
    | none => rfl
    | some z => rw [e] at h; cases h
  | [a], i + 1, x, _, hx, _ => by simp at hx
  | a :: b :: r, 0, x, h, hx, hl => by simp at hl
  | a :: b :: r, i + 1, x, h, hx, hl => by
    simp only [chain, Bool.and_eq_true, decide_eq_true_eq] at h
    exact chain_end (L := b :: r) (i := i) h.2 (by simpa using hx) (by simpa using hl)
theorem chainP_at {step : Nat → Nat → List Nat → List Nat → Option (List Nat × List Nat)} {n : Nat} : ∀ {L : List (List Nat)} {i : Nat} {x y : List Nat}, chainP step n L = true → L[i]? = some x → L[i + 1]? = some y → step n n (x.take n) (x.drop n) = some (y.take n, y.drop n)
  | [], _, _, _, h, _, _ => by cases h
  | [x], _, _, _, _, _, h => by simp at h
  | a :: b :: r, 0, x, y, h, hx, hy => by
    simp only [chainP, Bool.and_eq_true, decide_eq_true_eq] at h
    simp at hx hy
    subst hx hy
    exact h.1
  | a :: b :: r, i + 1, x, y, h, hx, hy => by
    simp only [chainP, Bool.and_eq_true, decide_eq_true_eq] at h
    exact chainP_at (L := b :: r) (i := i) h.2 (by simpa using hx) (by simpa using hy)
theorem chainP_end {step : Nat → Nat → List Nat → List Nat → Option (List Nat × List Nat)} {n : Nat} : ∀ {L : List (List Nat)} {i : Nat} {x : List Nat}, chainP step n L = true → L[i]? = some x → L.length ≤ i + 1 → step n n (x.take n) (x.drop n) = none
  | [], _, _, h, _, _ => by cases h
  | [a], 0, x, h, hx, _ => by
    simp only [chainP] at h
    simp at hx
    subst hx
    cases e : step n n (a.take n) (a.drop n) with
    | none => rfl
    | some z => rw [e] at h; cases h
  | [a], i + 1, x, _, hx, _ => by simp at hx
  | a :: b :: r, 0, x, h, hx, hl => by simp at hl
  | a :: b :: r, i + 1, x, h, hx, hl => by
    simp only [chainP, Bool.and_eq_true, decide_eq_true_eq] at h
    exact chainP_end (L := b :: r) (i := i) h.2 (by simpa using hx) (by simpa using hl)
/-- the pool: 0 .. n - 1 -/
def Pool (items : Array Value) (n : Nat) : Prop := items.size = n ∧ ∀ j, j < n → ∃ t, items[j]? = some (.int (j : Int) t)
theorem pool_vals {items : Array Value} {n : Nat} (h : Pool items n) : ∀ {l : List Nat}, (∀ j ∈ l, j < n) → Vals ((nI l).map V.int) (l.map fun i => items.getD i .none)
  | [], _ => .nil
  | j :: l, hl => by
    obtain ⟨t, e⟩ := h.2 j (hl j List.mem_cons_self)
    refine .cons ?_ (pool_vals h fun i hi => hl i (List.mem_cons_of_mem _ hi))
    have e2 : items.getD j .none = .int (j : Int) t := by
      rw [Array.getD_eq_getD_getElem?, e]
      rfl
    show L2.RelV (V.int (j : Int)) (items.getD j .none)
    rw [e2]
    exact ⟨t, rfl⟩
theorem pool_of {acc : Array Value} {n : Nat} (h : ItemsOf (fun i v => ∃ t, v = .int (0 + (i : Int) * 1) t) acc n) : Pool acc n := by
  refine ⟨h.1, fun j hj => ?_⟩
  have hj' : j < acc.size := by rw [h.1]; exact hj
  obtain ⟨t, e⟩ := h.2 j acc[j] (Array.getElem?_eq_getElem hj')
  refine ⟨t, ?_⟩
  rw [Array.getElem?_eq_getElem hj', e]
  congr 2
  omega

/-! ## combinations walked -/
/-- lists in order, of places below n -/
structure TabC (n : Nat) (L : List (List Nat)) : Prop where
  mem : (n, L) ∈ co22
theorem co_small : ∀ t ∈ co22, ∀ l ∈ t.2, l.length ≤ 100 ∧ ∀ j ∈ l, j < t.1 := by decide +kernel
def TnC (it pool : Addr) (items : Array Value) (L : List (List Nat)) (i : Nat) (h : Heap) : Prop := i ≤ L.length ∧ IsTup h pool items ∧ ∃ x, L[i - 1]? = some x ∧ AtCo h it pool (if i = 0 then 0 else 1) x
theorem at_co_keep {h h' : Heap} {it pool : Addr} {st : Int} {x : List Nat} (a : AtCo h it pool st x) (k : ∀ o, h.get? it = some o → h'.get? it = some o) : AtCo h' it pool st x := let ⟨l, e⟩ := a; ⟨l, k _ e⟩
theorem turn_co {P : Program} {w : World} {K : PySem.W.Frag} {tg : Expr} {it pool : Addr} {items : Array Value} {n : Nat} {L : List (List Nat)} (hL : (n, L) ∈ co22) (hi : Pool items n) (hne : it ≠ pool) : Turn P w K tg (ItN L) [it, pool] it (TnC it pool items L) where
  mem := by simp
  obj := fun i h ⟨_, ⟨o, ho, _, _, hd⟩, x, _, ⟨l, e⟩⟩ b hb => by
    rcases List.mem_cons.mp hb with z | z
    · rw [z]
      exact ⟨_, e, fun v z => by cases z⟩
    · rw [List.mem_singleton.mp z]
      exact ⟨_, ho, fun v z => by rw [hd] at z; cases z⟩
  keep := fun i h h' ⟨h1, ⟨o, ho, r⟩, x, hx, ha⟩ k => ⟨h1, ⟨o, k pool (by simp) o ho, r⟩, x, hx, at_co_keep ha (k it (by simp))⟩
  item := by
    intro X hP hw hK hc i pins s σ H E I hf st hg
    subst hP hw hK
    obtain ⟨step, htab, hstep⟩ := co_next_ex
    have hch : chain step n L = true := List.all_eq_true.mp htab _ hL
    obtain ⟨h1, hp, x, hx, ha⟩ := st
    have hlt : i < L.length := hg
    have hsm := co_small _ hL
    have hy : L[i]? = some L[i] := List.getElem?_eq_getElem hlt
    have fin : ∀ (h' : Heap) (r : Addr), h'.get? r = some { cls := .type "tuple", data := .seq (L[i].map fun j => items.getD j .none).toArray } → s.heap.objs.size ≤ r → AtCo h' it pool 1 L[i] → (∀ b o, b ≠ it → s.heap.get? b = some o → h'.get? b = some o) →
        ∃ u, some (Value.ref r) = some u ∧ wpAny (model X.prog X.w) X.A (letOwnedTupleGo tg (.ref it) u) (fun _ s2 => ∃ x H', Inv X pins σ H' s2 ∧ RelV x u ∧ (ItN L).yld i H x H' ∧ TnC it pool items L (i + 1) s2.heap ∧ ∀ b ∈ [it, pool], H' b = none) E { s with heap := h' } := by
      intro h' r hr hz ha' hk
      obtain ⟨hlen, hbd⟩ := hsm L[i] (List.getElem_mem hlt)
      have hT : H r = none := I.hok.fresh hz
      have new : ObjOk X.prog X.w (upd H r (.tup ((nI L[i]).map V.int))) h' r (.tup ((nI L[i]).map V.int)) :=
        ⟨by rw [List.length_map, List.length_map]; exact Nat.le_of_lt (small1000 (by omega)), _, pool_vals hi hbd, ⟨_, hr, rfl, _, rfl⟩⟩
      have I1 : Inv X pins σ (upd H r (.tup ((nI L[i]).map V.int))) { s with heap := h' } := I.turnedNew (t' := s.toks) (ch := [it]) (fun b o hb e => hk b o (fun z => hb (by simp [z])) e) (fun b hb => hf b (by rw [List.mem_singleton.mp hb]; simp)) hz new
      obtain ⟨l', e'⟩ := id ha'
      refine ⟨_, rfl, go_of (s := { s with heap := h' }) e' rfl rfl (by decide) ⟨.ref r, _, I1, rfl, ⟨r, L[i], rfl, hT, hy, rfl⟩, ⟨hlt, hp.extBut (b := it) (fun b o hb e => hk b o hb e) (Ne.symm hne), L[i], hy, ha'⟩, fun b hb => ?_⟩⟩
      have hlb : b < s.heap.objs.size := by
        rcases List.mem_cons.mp hb with z | z
        · rw [z]
          obtain ⟨_, q⟩ := ha
          exact Heap.lt_size q
        · rw [List.mem_singleton.mp z]
          obtain ⟨_, q, _⟩ := hp
          exact Heap.lt_size q
      rw [upd_ne (Nat.ne_of_lt (Nat.lt_of_lt_of_le hlb hz))]
      exact (hf b hb).1
    have hxl := (hsm x (List.mem_of_getElem? hx)).1
    by_cases h0 : i = 0
    · subst h0
      have e : x = L[0] := Option.some.inj (hx.symm.trans hy)
      subst e
      exact (hstep hp hne (I.ok.hd hc) hxl).1 ha fin
    · rw [if_neg h0] at ha
      obtain ⟨k, rfl⟩ : ∃ k, i = k + 1 := ⟨i - 1, by omega⟩
      exact (hstep hp hne (I.ok.hd hc) hxl).2.1 L[k + 1] ha (hsm _ (List.getElem_mem hlt)).1 (by rw [hi.1]; exact chain_at hch hx hy) fin
  done := by
    intro X hP hw hK hc i pins s σ H E I hf st hg
    subst hP hw hK
    obtain ⟨step, htab, hstep⟩ := co_next_ex
    have hch : chain step n L = true := List.all_eq_true.mp htab _ hL
    obtain ⟨h1, hp, x, hx, ha⟩ := st
    have hge : L.length ≤ i := hg
    have hlt := (List.getElem?_eq_some_iff.mp hx).1
    have h0 : i ≠ 0 := fun z => by subst z; omega
    rw [if_neg h0] at ha
    have hxl := (co_small _ hL x (List.mem_of_getElem? hx)).1
    exact (hstep hp hne (I.ok.hd hc) hxl).2.2 ha (by rw [hi.1]; exact chain_end hch hx (by omega)) fun h' hk => ⟨rfl, I.turnedL (t' := s.toks) (ch := [it]) (fun b o hb e => hk b o (fun z => hb (by simp [z])) e) fun b hb => hf b (by rw [List.mem_singleton.mp hb]; simp)⟩
  self := fun A i s Q E ⟨_, _, x, _, ⟨l, e⟩⟩ h => by
    have hT : s.TypeIs (.ref it) "itertools.combinations" := ⟨_, e, rfl⟩
    refine wpAny_pyIter_slot hT slot_co_iter (wpAny_call_entry slot_co_iter hT entry_co_iter ?_ (args_co_iter _))
    show wpAny _ _ (ret (.ref it)) _ _ s
    exact wpAny_pure ⟨_, rfl, "itertools.combinations", _, hT, slot_co_next.lookup, h⟩

/-! ## permutations walked -/
theorem pe_small : ∀ n ∈ [2, 3, 4], ∀ l ∈ peS n, l.length ≤ 100 ∧ (∀ j ∈ l.take n, j < n) ∧ (l.take n).length ≤ n := by decide +kernel
def TnP (it pool : Addr) (items : Array Value) (n : Nat) (L : List (List Nat)) (i : Nat) (h : Heap) : Prop := i ≤ L.length ∧ IsTup h pool items ∧ ∃ x, L[i - 1]? = some x ∧ AtPe h it pool (if i = 0 then 0 else 1) n x
theorem at_pe_keep {h h' : Heap} {it pool : Addr} {st : Int} {r : Nat} {x : List Nat} (a : AtPe h it pool st r x) (k : ∀ o, h.get? it = some o → h'.get? it = some o) : AtPe h' it pool st r x := let ⟨l, e⟩ := a; ⟨l, k _ e⟩
theorem turn_pe {P : Program} {w : World} {K : PySem.W.Frag} {tg : Expr} {it pool : Addr} {items : Array Value} {n : Nat} {L : List (List Nat)} (hn : n ∈ [2, 3, 4]) (hLL : L = peS n) (hi : Pool items n) (hne : it ≠ pool) : Turn P w K tg (ItN (L.map (List.take n))) [it, pool] it (TnP it pool items n L) where
  mem := by simp
  obj := fun i h ⟨_, ⟨o, ho, _, _, hd⟩, x, _, ⟨l, e⟩⟩ b hb => by
    rcases List.mem_cons.mp hb with z | z
    · rw [z]
      exact ⟨_, e, fun v z => by cases z⟩
    · rw [List.mem_singleton.mp z]
      exact ⟨_, ho, fun v z => by rw [hd] at z; cases z⟩
  keep := fun i h h' ⟨h1, ⟨o, ho, r⟩, x, hx, ha⟩ k => ⟨h1, ⟨o, k pool (by simp) o ho, r⟩, x, hx, at_pe_keep ha (k it (by simp))⟩
  item := by
    intro X hP hw hK hc i pins s σ H E I hf st hg
    subst hP hw hK
    obtain ⟨step, htab, hstep⟩ := pe_next_ex
    have hch : chainP step n L = true := by rw [hLL]; exact List.all_eq_true.mp htab _ hn
    obtain ⟨h1, hp, x, hx, ha⟩ := st
    have hlt0 : i < (L.map (List.take n)).length := hg
    have hlt : i < L.length := by simpa using hlt0
    have hsm := pe_small n hn
    rw [← hLL] at hsm
    have hy : L[i]? = some L[i] := List.getElem?_eq_getElem hlt
    have fin : ∀ (h' : Heap) (r : Addr), h'.get? r = some { cls := .type "tuple", data := .seq ((L[i].take n).map fun j => items.getD j .none).toArray } → s.heap.objs.size ≤ r → AtPe h' it pool 1 n L[i] → (∀ b o, b ≠ it → s.heap.get? b = some o → h'.get? b = some o) →
        ∃ u, some (Value.ref r) = some u ∧ wpAny (model X.prog X.w) X.A (letOwnedTupleGo tg (.ref it) u) (fun _ s2 => ∃ x H', Inv X pins σ H' s2 ∧ RelV x u ∧ (ItN (L.map (List.take n))).yld i H x H' ∧ TnP it pool items n L (i + 1) s2.heap ∧ ∀ b ∈ [it, pool], H' b = none) E { s with heap := h' } := by
      intro h' r hr hz ha' hk
      obtain ⟨hlen, hbd, hln⟩ := hsm L[i] (List.getElem_mem hlt)
      have hT : H r = none := I.hok.fresh hz
      have hn4 : n ≤ 4 := by have := hn; simp at this; omega
      have new : ObjOk X.prog X.w (upd H r (.tup ((nI (L[i].take n)).map V.int))) h' r (.tup ((nI (L[i].take n)).map V.int)) :=
        ⟨by rw [List.length_map, List.length_map]; exact Nat.le_of_lt (small1000 (by omega)), _, pool_vals hi hbd, ⟨_, hr, rfl, _, rfl⟩⟩
      have I1 : Inv X pins σ (upd H r (.tup ((nI (L[i].take n)).map V.int))) { s with heap := h' } := I.turnedNew (t' := s.toks) (ch := [it]) (fun b o hb e => hk b o (fun z => hb (by simp [z])) e) (fun b hb => hf b (by rw [List.mem_singleton.mp hb]; simp)) hz new
      obtain ⟨l', e'⟩ := id ha'
      refine ⟨_, rfl, go_of (s := { s with heap := h' }) e' rfl rfl (by decide) ⟨.ref r, _, I1, rfl, ⟨r, L[i].take n, rfl, hT, by rw [List.getElem?_map, hy]; rfl, rfl⟩, ⟨hlt, hp.extBut (b := it) (fun b o hb e => hk b o hb e) (Ne.symm hne), L[i], hy, ha'⟩, fun b hb => ?_⟩⟩
      have hlb : b < s.heap.objs.size := by
        rcases List.mem_cons.mp hb with z | z
        · rw [z]
          obtain ⟨_, q⟩ := ha
          exact Heap.lt_size q
        · rw [List.mem_singleton.mp z]
          obtain ⟨_, q, _⟩ := hp
          exact Heap.lt_size q
      rw [upd_ne (Nat.ne_of_lt (Nat.lt_of_lt_of_le hlb hz))]
      exact (hf b hb).1
    have hxl := (hsm x (List.mem_of_getElem? hx)).1
    by_cases h0 : i = 0
    · subst h0
      have e : x = L[0] := Option.some.inj (hx.symm.trans hy)
      subst e
      exact (hstep hp hne (I.ok.hd hc) hxl).1 ha fin
    · rw [if_neg h0] at ha
      obtain ⟨k, rfl⟩ : ∃ k, i = k + 1 := ⟨i - 1, by omega⟩
      exact (hstep hp hne (I.ok.hd hc) hxl).2.1 (L[k + 1].take n) (L[k + 1].drop n) ha (by rw [List.take_append_drop]; exact (hsm _ (List.getElem_mem hlt)).1) (by rw [hi.1]; exact chainP_at hch hx hy) (by rw [List.take_take, Nat.min_self, List.take_append_drop]; exact fin)
  done := by
    intro X hP hw hK hc i pins s σ H E I hf st hg
    subst hP hw hK
    obtain ⟨step, htab, hstep⟩ := pe_next_ex
    have hch : chainP step n L = true := by rw [hLL]; exact List.all_eq_true.mp htab _ hn
    obtain ⟨h1, hp, x, hx, ha⟩ := st
    have hge0 : (L.map (List.take n)).length ≤ i := hg
    have hge : L.length ≤ i := by simpa using hge0
    have hlt := (List.getElem?_eq_some_iff.mp hx).1
    have h0 : i ≠ 0 := fun z => by subst z; omega
    rw [if_neg h0] at ha
    have hxl := (pe_small n hn x (by rw [← hLL]; exact List.mem_of_getElem? hx)).1
    exact (hstep hp hne (I.ok.hd hc) hxl).2.2 ha (by rw [hi.1]; exact chainP_end hch hx (by omega)) fun h' hk => ⟨rfl, I.turnedL (t' := s.toks) (ch := [it]) (fun b o hb e => hk b o (fun z => hb (by simp [z])) e) fun b hb => hf b (by rw [List.mem_singleton.mp hb]; simp)⟩
  self := fun A i s Q E ⟨_, _, x, _, ⟨l, e⟩⟩ h => by
    have hT : s.TypeIs (.ref it) "itertools.permutations" := ⟨_, e, rfl⟩
    refine wpAny_pyIter_slot hT slot_pe_iter (wpAny_call_entry slot_pe_iter hT entry_pe_iter ?_ (args_pe_iter _))
    show wpAny _ _ (ret (.ref it)) _ _ s
    exact wpAny_pure ⟨_, rfl, "itertools.permutations", _, hT, slot_pe_next.lookup, h⟩
end GY
namespace GY
open PySem PySem.Spec PyProof.Rows L2

theorem bind_pe (a : Value) : Builtin.Itertools.itBindNamed "permutations" ["iterable", "r"] 1 2 [a] [] = pure [some a, none] := by kernel_rfl
theorem too_many {k : Nat} (h : k ≤ 100) : ¬ Builtin.Itertools.itTooMany (k : Int) = true := by
  unfold Builtin.Itertools.itTooMany
  rw [decide_eq_false (by omega)]
  exact Bool.false_ne_true
theorem meets_pe_new (r : Addr) (n : Nat) (hn : n ≤ 100) :
    Meets (Builtin.«itertools.permutations.__new__» ⟨[.type "itertools.permutations", .ref r], []⟩)
      (fun A R s => A.handled = none ∧ (∃ t u v, IsRange s.heap r 0 (n : Int) 1 t u v) ∧ ∀ (h' : Heap) (tk : Nat) (acc : Array Value), (∀ b o, s.heap.get? b = some o → h'.get? b = some o) → ItemsOf (fun i v => ∃ t, v = .int (0 + (i : Int) * 1) t) acc n →
        R (.ok (.ret (.ref (h'.objs.size + 1)))) { s with heap := (h'.push { cls := .type "tuple", data := .seq acc }).push (peObj h'.objs.size 0 n .none (List.range n ++ (List.range n).map fun i => n - i)), toks := tk }) :=
  .of_wp fun prog w A R s ⟨hh, ⟨t1, u1, v1, hr⟩, h⟩ => by
    unfold Builtin.«itertools.permutations.__new__»
    refine wpAny_bind (wp_class isType_pe sub_pe ?_)
    try dsimp only
    refine wpAny_bind (wpAny_of_eq (bind_pe _) ?_)
    try dsimp only
    refine wpAny_bind (collect_range (A := A.in1) (n := n) hh hr (small_one (by omega) (by omega) (by omega) (by omega)) (by rw [rangeSize_one]; split <;> omega) (by omega) fun h' tk acc hk hi => ?_)
    have hlen : acc.toList.length = n := by rw [Array.length_toList]; exact hi.1
    refine wpAny_bind (wpAny_pure ?_)
    rw [hlen]
    try dsimp only
    rw [if_neg (show ¬ (n : Int) < 0 by omega), if_neg (too_many hn)]
    refine wpAny_bind (wpAny_newTuple ?_ (by rw [hlen]; exact Nat.le_of_lt (small1000 (by omega))))
    refine wpAny_bind (wp_record nodict_pe ?_ ?_)
    · simp
      omega
    refine wpAny_pure ⟨_, rfl, ?_⟩
    have hz : (if (n : Int).toNat > n then (2 : Int) else 0) = 0 := by rw [if_neg]; omega
    have e0 : (List.map (fun (i : Nat) => rawInt ((n : Int) - (i : Int))) (List.range n)) = ((List.range n).map fun i => n - i).map fun (i : Nat) => rawInt (i : Int) := by
      rw [List.map_map]
      refine List.map_congr_left fun i hi => ?_
      have := List.mem_range.mp hi
      show rawInt ((n : Int) - (i : Int)) = rawInt (((n - i : Nat)) : Int)
      congr 1
      omega
    have e1 : ({ cls := .type "itertools.permutations", data := .fields (([Value.ref h'.objs.size, rawInt (if (n : Int).toNat > n then (2 : Int) else 0), rawInt (((n : Int).toNat : Nat) : Int), Value.none] ++ (List.range n).map (fun (i : Nat) => rawInt (i : Int)) ++ (List.range (n : Int).toNat).map fun (i : Nat) => rawInt ((n : Int) - (i : Int))).toArray) } : Obj) = peObj h'.objs.size 0 n .none (List.range n ++ (List.range n).map fun i => n - i) := by
      rw [hz, Int.toNat_natCast, e0]
      unfold peObj
      rw [List.map_append]
      simp only [List.append_assoc]
    have := h h' tk acc hk hi
    rw [← e1] at this
    rw [Heap.size_push]
    simpa using this
section
variable {prog : Program} {w : World} {A : Around} {E : Value → Shared → Prop} {s : Shared}
abbrev coHeap (h' : Heap) (items : Array Value) (k : Nat) : Heap := (h'.push { cls := .type "tuple", data := .seq items }).push (coObj h'.objs.size 0 .none (List.range k))
abbrev peHeap (h' : Heap) (items : Array Value) (n : Nat) : Heap := (h'.push { cls := .type "tuple", data := .seq items }).push (peObj h'.objs.size 0 n .none (List.range n ++ (List.range n).map fun i => n - i))
theorem co_get {h' : Heap} {items : Array Value} {k : Nat} : (coHeap h' items k).get? (h'.objs.size + 1) = some (coObj h'.objs.size 0 .none (List.range k)) := by
  have := Heap.get?_push_size (h'.push { cls := .type "tuple", data := .seq items }) (o := coObj h'.objs.size 0 .none (List.range k)) rfl
  rw [Heap.size_push] at this
  exact this
theorem pe_get {h' : Heap} {items : Array Value} {n : Nat} : (peHeap h' items n).get? (h'.objs.size + 1) = some (peObj h'.objs.size 0 n .none (List.range n ++ (List.range n).map fun i => n - i)) := by
  have := Heap.get?_push_size (h'.push { cls := .type "tuple", data := .seq items }) (o := peObj h'.objs.size 0 n .none (List.range n ++ (List.range n).map fun i => n - i)) rfl
  rw [Heap.size_push] at this
  exact this
theorem co_pool {h' : Heap} {items : Array Value} {k : Nat} : IsTup (coHeap h' items k) h'.objs.size items := ⟨_, Heap.get?_push_of_some _ (Heap.get?_push_size _ rfl), rfl, _, rfl⟩
theorem pe_pool {h' : Heap} {items : Array Value} {k : Nat} : IsTup (peHeap h' items k) h'.objs.size items := ⟨_, Heap.get?_push_of_some _ (Heap.get?_push_size _ rfl), rfl, _, rfl⟩
theorem call_co {r : Addr} {n k : Nat} {t : Tok} {Q : Value → Shared → Prop} (hh : A.handled = none) (hr : ∃ t u v, IsRange s.heap r 0 (n : Int) 1 t u v) (hn : n ≤ 100) (hk : k ≤ n)
    (h : ∀ h' tk items, (∀ b o, s.heap.get? b = some o → h'.get? b = some o) → Pool items n → Q (.ref (h'.objs.size + 1)) { s with heap := coHeap h' items k, toks := tk }) :
    wpAny (model prog w) A (call (.type "itertools.combinations") [.ref r, .int (k : Int) t]) Q E s :=
  callType_new called_co (by decide +kernel) (tcall_co _ _) (ncall_co _ _) (fun obj => F.args_object_init_3 obj _ _) entry_co_new (meets_co_new r n k t hn hk) ⟨hh, hr, fun h' tk acc hkp hi =>
    ⟨⟨_, co_get, rfl⟩, h h' tk acc hkp (pool_of hi)⟩⟩
theorem call_pe {r : Addr} {n : Nat} {Q : Value → Shared → Prop} (hh : A.handled = none) (hr : ∃ t u v, IsRange s.heap r 0 (n : Int) 1 t u v) (hn : n ≤ 100)
    (h : ∀ h' tk items, (∀ b o, s.heap.get? b = some o → h'.get? b = some o) → Pool items n → Q (.ref (h'.objs.size + 1)) { s with heap := peHeap h' items n, toks := tk }) :
    wpAny (model prog w) A (call (.type "itertools.permutations") [.ref r]) Q E s :=
  callType_new called_pe (by decide +kernel) (tcall_pe _) (ncall_pe _) (fun obj => F.args_object_init_2 obj _) entry_pe_new (meets_pe_new r n hn) ⟨hh, hr, fun h' tk acc hkp hi =>
    ⟨⟨_, pe_get, rfl⟩, h h' tk acc hkp (pool_of hi)⟩⟩
end
theorem co_self {prog : Program} {w : World} {A : Around} {s : Shared} {Q : Value → Shared → Prop} {E : Value → Shared → Prop} {it pool : Addr} {st : Int} {x : List Nat} (h : AtCo s.heap it pool st x) (q : Q (.ref it) s) : wpAny (model prog w) A (pyIter (.ref it)) Q E s := by
  obtain ⟨l, e⟩ := h
  have hT : s.TypeIs (.ref it) "itertools.combinations" := ⟨_, e, rfl⟩
  refine wpAny_pyIter_slot hT slot_co_iter (wpAny_call_entry slot_co_iter hT entry_co_iter ?_ (args_co_iter _))
  show wpAny _ _ (ret (.ref it)) _ _ s
  exact wpAny_pure ⟨_, rfl, "itertools.combinations", _, hT, slot_co_next.lookup, q⟩
theorem pe_self {prog : Program} {w : World} {A : Around} {s : Shared} {Q : Value → Shared → Prop} {E : Value → Shared → Prop} {it pool : Addr} {st : Int} {r : Nat} {x : List Nat} (h : AtPe s.heap it pool st r x) (q : Q (.ref it) s) : wpAny (model prog w) A (pyIter (.ref it)) Q E s := by
  obtain ⟨l, e⟩ := h
  have hT : s.TypeIs (.ref it) "itertools.permutations" := ⟨_, e, rfl⟩
  refine wpAny_pyIter_slot hT slot_pe_iter (wpAny_call_entry slot_pe_iter hT entry_pe_iter ?_ (args_pe_iter _))
  show wpAny _ _ (ret (.ref it)) _ _ s
  exact wpAny_pure ⟨_, rfl, "itertools.permutations", _, hT, slot_pe_next.lookup, q⟩
/-- what combinations and permutations of range(n) hand out -/
def coL (n k : Nat) : List (List Nat) := ((co22.find? fun t => decide (t.1 = n ∧ (t.2.headD []).length = k)).map (·.2)).getD []
theorem co_mem : ∀ n ∈ [2, 3, 4], ∀ k ∈ List.range 5, 1 ≤ k → k ≤ n → (n, coL n k) ∈ co22 ∧ (coL n k)[0]? = some (List.range k) := by decide +kernel
theorem pe_head : ∀ n ∈ [2, 3, 4], (peS n)[0]? = some (List.range n ++ (List.range n).map fun i => n - i) := by decide +kernel
def peL (n : Nat) : List (List Nat) := (peS n).map (List.take n)
section
variable {X : Cx} {e a b : Expr} {pos : Pos} {B : Bs} {ρ : List Sl} {tg : Expr} {p p2 pos2 : Pos}
theorem co_args {n : Int} {k : Int} {ck : Expr} (hmr : X.mg "range" = none) (ha : PE X a (tV X.w B ρ (.pu (.int n)))) (hk : PE X ck (tV X.w B ρ (.pu (.int k))))
    (hgr : Gl X "range" := by rfl) (na : starEach [a] X.env = (false, eval a X.env) :: starEach [] X.env := by rfl)
    (hs : starEach [.Call (.Name "range" p) [a] [] pos, ck] X.env = (false, eval (.Call (.Name "range" p) [a] [] pos) X.env) :: starEach [ck] X.env := by rfl) (hs2 : starEach [ck] X.env = (false, eval ck X.env) :: starEach [] X.env := by rfl)
    {pins : List (Addr × Obj)} {s : Shared} {σ : L2.St} {F H : Hp} (I : Inv X pins σ H s) (h : AS X.w B ρ F σ H) :
    wpAny (model X.prog X.w) X.A (spliced (backTo pos2 (starEach [.Call (.Name "range" p) [a] [] pos, ck] X.env))) (fun vs s' => ∃ r t F' H', vs = [.ref r, .int k t] ∧ (∃ t u v, IsRange s'.heap r 0 n 1 t u v) ∧ Inv X pins σ H' s' ∧ Gr F H F' H') X.xe s := by
  refine args_cons (Call_ (ld_blt I hgr hmr boot_range (PyProof.Rows.callWith_type1 (one_arg ha I (R := fun v H1 => ∃ F1, v = .int n ∧ Gr F H F1 H1) ⟨F, h, fun v F1 H1 g o => ⟨F1, Rp.int_inv o, g⟩⟩ (fun v s2 x H2 I2 r q => ?_) na) na))) hs
  obtain ⟨F1, rfl, g1⟩ := q
  obtain ⟨t, rfl⟩ := r
  refine call_range_1 ?_
  have hfr : H2 s2.heap.objs.size = none := I2.hok.fresh (Nat.le_refl _)
  obtain ⟨f0, f1, f2, f3, f4, f5⟩ := I2.fpOk (H' := H2) (b := s2.heap.objs.size) (Nat.le_refl _) hfr
  have I3 : Inv X pins σ H2 { s2 with heap := s2.heap.push { cls := .type "range", data := .fields #[.int 0 s2.toks, .int n t, .int 1 (s2.toks + 1)] }, toks := s2.toks + 1 + 1 } := I2.kept fun b u e => Heap.get?_push_of_some _ e
  have I4 := I3.pins_of (pins' := (s2.heap.objs.size, { cls := .type "range", data := .fields #[.int 0 s2.toks, .int n t, .int 1 (s2.toks + 1)] }) :: pins) fun q hq => by
    rcases List.mem_cons.mp hq with rfl | hq
    · exact ⟨Heap.get?_push_size _ rfl, f0, f1, f2, fun v z => by cases z⟩
    · exact I3.pin q (List.mem_append_right _ hq)
  refine one_arg hk I4 (R := fun v H1 => ∃ F1, v = .int k ∧ Gr F H F1 H1) ⟨F1, h.grow g1, fun v F2 H3 g2 o => ⟨F2, Rp.int_inv o, g1.trans g2⟩⟩ (fun v s3 x H3 I5 r q => ?_) hs2
  obtain ⟨F2, rfl, g2⟩ := q
  obtain ⟨t2, rfl⟩ := r
  have hp := (I5.pin _ (List.mem_append_right _ List.mem_cons_self)).1
  exact ⟨_, t2, F2, H3, rfl, ⟨_, _, _, hp⟩, I5.pins_of fun q hq => I5.pin q (List.mem_append_right _ (List.mem_cons_of_mem _ hq)), g2⟩
theorem pe_args {n : Int} (hmr : X.mg "range" = none) (ha : PE X a (tV X.w B ρ (.pu (.int n))))
    (hgr : Gl X "range" := by rfl) (na : starEach [a] X.env = (false, eval a X.env) :: starEach [] X.env := by rfl)
    (hs : starEach [.Call (.Name "range" p) [a] [] pos] X.env = (false, eval (.Call (.Name "range" p) [a] [] pos) X.env) :: starEach [] X.env := by rfl)
    {pins : List (Addr × Obj)} {s : Shared} {σ : L2.St} {F H : Hp} (I : Inv X pins σ H s) (h : AS X.w B ρ F σ H) :
    wpAny (model X.prog X.w) X.A (spliced (backTo pos2 (starEach [.Call (.Name "range" p) [a] [] pos] X.env))) (fun vs s' => ∃ r F' H', vs = [.ref r] ∧ (∃ t u v, IsRange s'.heap r 0 n 1 t u v) ∧ Inv X pins σ H' s' ∧ Gr F H F' H') X.xe s := by
  refine args_cons (Call_ (ld_blt I hgr hmr boot_range (PyProof.Rows.callWith_type1 (one_arg ha I (R := fun v H1 => ∃ F1, v = .int n ∧ Gr F H F1 H1) ⟨F, h, fun v F1 H1 g o => ⟨F1, Rp.int_inv o, g⟩⟩ (fun v s2 x H2 I2 r q => ?_) na) na))) hs
  obtain ⟨F1, rfl, g1⟩ := q
  obtain ⟨t, rfl⟩ := r
  refine call_range_1 (args_nil ⟨_, F1, H2, rfl, ⟨_, _, _, Heap.get?_push_size _ rfl⟩, I2.kept fun b u e => Heap.get?_push_of_some _ e, g1⟩)
/-- combinations(range(n), k) walked -/
theorem ico {n k : Nat} {ck : Expr} (hmr : X.mg "range" = none) (hmc : X.mg "combinations" = some (.type "itertools.combinations")) (hc : X.calm = true) (ha : PE X a (tV X.w B ρ (.pu (.int (n : Int))))) (hk : PE X ck (tV X.w B ρ (.pu (.int (k : Int))))) (hn : n ∈ [2, 3, 4]) (h1 : 1 ≤ k) (h2 : k ≤ n)
    (hgr : Gl X "range" := by rfl) (hgc : Gl X "combinations" := by rfl) (na : starEach [a] X.env = (false, eval a X.env) :: starEach [] X.env := by rfl)
    (hs : starEach [.Call (.Name "range" p) [a] [] pos, ck] X.env = (false, eval (.Call (.Name "range" p) [a] [] pos) X.env) :: starEach [ck] X.env := by rfl) (hs2 : starEach [ck] X.env = (false, eval ck X.env) :: starEach [] X.env := by rfl) (hp : (backTo pos2 (starEach [ck] X.env)).any (·.1) = false := by rfl) :
    PI X tg (.Call (.Name "combinations" p2) [.Call (.Name "range" p) [a] [] pos, ck] [] pos2) (tI X.w B ρ ((coL n k).map fun l => dI (nI l))) := by
  refine ⟨fun pins s σ H R I ⟨F, a1, q⟩ => ?_⟩
  have h5 : n ≤ 4 := by simp at hn; omega
  obtain ⟨hmem, hhead⟩ := co_mem n hn k (by simp; omega) h1 h2
  refine Call_ (ld_glob I hgc hmc (PyProof.Rows.callWith_type1 (thn (co_args hmr ha hk hgr na hs hs2 I a1) fun vs s1 ⟨r, t, F1, H1, ev, hr, I1, g1⟩ => ?_) hs hp))
  subst ev
  refine call_co (I1.ok.hd hc) hr (by omega) h2 fun h' tk items hkp hi => ?_
  refine co_self (s := { s1 with heap := coHeap h' items k, toks := tk }) ⟨_, co_get⟩ ?_
  have I2 : Inv X pins σ H1 { s1 with heap := h', toks := tk } := I1.kept hkp
  have I3 : Inv X pins σ H1 { s1 with heap := coHeap h' items k, toks := tk } := I1.kept fun b o e => Heap.get?_push_of_some _ (Heap.get?_push_of_some _ (hkp b o e))
  have hne : h'.objs.size + 1 ≠ h'.objs.size := by omega
  refine ⟨_, [h'.objs.size + 1, h'.objs.size], _, _, H1, rfl, I3, turn_co hmem hi hne, ⟨Nat.zero_le _, co_pool, List.range k, hhead, _, co_get⟩, fun b hb => ?_, q _ F1 H1 g1 yld_N⟩
  rcases List.mem_cons.mp hb with z | z
  · rw [z]
    exact I2.fpOk (Nat.le_succ _) (I2.hok.fresh (Nat.le_succ _))
  · rw [List.mem_singleton.mp z]
    exact I2.fpOk (Nat.le_refl _) (I2.hok.fresh (Nat.le_refl _))
/-- permutations(range(n)) walked -/
theorem ipe {n : Nat} (hmr : X.mg "range" = none) (hmc : X.mg "permutations" = some (.type "itertools.permutations")) (hc : X.calm = true) (ha : PE X a (tV X.w B ρ (.pu (.int (n : Int))))) (hn : n ∈ [2, 3, 4])
    (hgr : Gl X "range" := by rfl) (hgc : Gl X "permutations" := by rfl) (na : starEach [a] X.env = (false, eval a X.env) :: starEach [] X.env := by rfl)
    (hs : starEach [.Call (.Name "range" p) [a] [] pos] X.env = (false, eval (.Call (.Name "range" p) [a] [] pos) X.env) :: starEach [] X.env := by rfl) (hp : (backTo pos2 (starEach [] X.env)).any (·.1) = false := by rfl) :
    PI X tg (.Call (.Name "permutations" p2) [.Call (.Name "range" p) [a] [] pos] [] pos2) (tI X.w B ρ ((peL n).map fun l => dI (nI l))) := by
  refine ⟨fun pins s σ H R I ⟨F, a1, q⟩ => ?_⟩
  have h5 : n ≤ 4 := by simp at hn; omega
  refine Call_ (ld_glob I hgc hmc (PyProof.Rows.callWith_type1 (thn (pe_args hmr ha hgr na hs I a1) fun vs s1 ⟨r, F1, H1, ev, hr, I1, g1⟩ => ?_) hs hp))
  subst ev
  refine call_pe (I1.ok.hd hc) hr (by omega) fun h' tk items hkp hi => ?_
  refine pe_self (s := { s1 with heap := peHeap h' items n, toks := tk }) ⟨_, pe_get⟩ ?_
  have I2 : Inv X pins σ H1 { s1 with heap := h', toks := tk } := I1.kept hkp
  have I3 : Inv X pins σ H1 { s1 with heap := peHeap h' items n, toks := tk } := I1.kept fun b o e => Heap.get?_push_of_some _ (Heap.get?_push_of_some _ (hkp b o e))
  have hne : h'.objs.size + 1 ≠ h'.objs.size := by omega
  refine ⟨_, [h'.objs.size + 1, h'.objs.size], _, _, H1, rfl, I3, turn_pe hn rfl hi hne, ⟨Nat.zero_le _, pe_pool, _, pe_head n hn, _, pe_get⟩, fun b hb => ?_, q _ F1 H1 g1 yld_N⟩
  rcases List.mem_cons.mp hb with z | z
  · rw [z]
    exact I2.fpOk (Nat.le_succ _) (I2.hok.fresh (Nat.le_succ _))
  · rw [List.mem_singleton.mp z]
    exact I2.fpOk (Nat.le_refl _) (I2.hok.fresh (Nat.le_refl _))
end
end GY
namespace GY
open PySem PySem.Spec PyProof.Rows L2

theorem nolen_co : typeLookup (.type "itertools.combinations") "__len__" = pure none := by rw [typeLookup_type, builtinLookup_eq_fast]; kernel_rfl
theorem nohint_co : typeLookup (.type "itertools.combinations") "__length_hint__" = pure none := by rw [typeLookup_type, builtinLookup_eq_fast]; kernel_rfl
section
variable {X : Cx} {pins : List (Addr × Obj)} {σ : L2.St}
/-- the iterator at it hands out L, its pool at pool -/
structure CoRun (X : Cx) (pins : List (Addr × Obj)) (H : Hp) (it pool : Addr) (items : Array Value) (n : Nat) (L : List (List Nat)) (i : Nat) (h : Heap) : Prop where
  tn : TnC it pool items L i h
  fp : ∀ b ∈ [it, pool], FpOk X pins H b
theorem co_loop {A : Around} {Rs : Result → Shared → Prop} {F0 H0 : Hp} {it pool q : Addr} {items : Array Value} {n : Nat} {L : List (List Nat)} (hh : A.in1.handled = none) (hL : (n, L) ∈ co22) (hi : Pool items n) (hne : it ≠ pool) (hq0 : H0 q = none) (hqi : q ≠ it) (hqp : q ≠ pool) (hLl : L.length ≤ 100)
    (hdone : ∀ F H s acc, Inv X pins σ H s → Gr F0 H0 F H → F q = none → H q = some (.lst acc) → RpAll F acc (L.map fun l => dI (nI l)) → Rs (.ok (.ret .none)) s) :
    ∀ (m i : Nat) (acc : List V) (F H : Hp) (s : Shared), m = L.length - i → i ≤ L.length → Inv X pins σ H s → CoRun X pins H it pool items n L i s.heap → Gr F0 H0 F H → F q = none → H q = some (.lst acc) → RpAll F acc ((L.take i).map fun l => dI (nI l)) →
      codeAny (model X.prog X.w) A (.builtin "list.extend.loop" ⟨[.ref q, .ref it, .none], []⟩) Rs s := by
  obtain ⟨step, htab, hstep⟩ := co_next_ex
  have hch : chain step n L = true := List.all_eq_true.mp htab _ hL
  have hsm := co_small _ hL
  intro m
  induction m with
  | zero =>
    intro i acc F H s hm hle I hr g fq hq ra
    refine codeAny_builtin PySem.F.entry_extend_loop ?_
    rw [Around.under_plainId PySem.F.plain_extend_loop _]
    show wpAny _ A.in1 (pyNext (.ref it) >>= _) _ _ s
    have ei : i = L.length := by omega
    subst ei
    obtain ⟨⟨h1, hp, x, hx, ha⟩, fp⟩ := hr
    have hlt := (List.getElem?_eq_some_iff.mp hx).1
    have h0 : L.length ≠ 0 := fun z => by omega
    rw [if_neg h0] at ha
    have hxl := (hsm x (List.mem_of_getElem? hx)).1
    refine wpAny_bind ((hstep hp hne hh hxl).2.2 ha (by rw [hi.1]; exact chain_end hch hx (by omega)) fun h' hk => ?_)
    have I1 : Inv X pins σ H { s with heap := h' } := I.turnedL (t' := s.toks) (ch := [it]) (fun b o hb e => hk b o (fun z => hb (by simp [z])) e) fun b hb => fp b (by rw [List.mem_singleton.mp hb]; simp)
    rw [List.take_length] at ra
    exact wpAny_pure (hdone F H _ acc I1 g fq hq ra)
  | succ m ih =>
    intro i acc F H s hm hle I hr g fq hq ra
    refine codeAny_builtin PySem.F.entry_extend_loop ?_
    rw [Around.under_plainId PySem.F.plain_extend_loop _]
    show wpAny _ A.in1 (pyNext (.ref it) >>= _) _ _ s
    obtain ⟨⟨h1, hp, x, hx, ha⟩, fp⟩ := hr
    have hlt : i < L.length := by omega
    have hy : L[i]? = some L[i] := List.getElem?_eq_getElem hlt
    have fin : ∀ (h' : Heap) (r : Addr), h'.get? r = some { cls := .type "tuple", data := .seq (L[i].map fun j => items.getD j .none).toArray } → s.heap.objs.size ≤ r → AtCo h' it pool 1 L[i] → (∀ b o, b ≠ it → s.heap.get? b = some o → h'.get? b = some o) →
        wpAny (model X.prog X.w) A.in1 (updateSeq q (·.push (.ref r)) >>= fun _ => again (.builtin "list.extend.loop" ⟨[.ref q, .ref it, .none], []⟩)) (fun fin s' => match fin with | .done f => Rs (.ok f) s' | .again c' => c'.quiet = true ∧ codeAny (model X.prog X.w) A c' Rs s') (fun e s' => Rs (.error e) s') { s with heap := h' } := by
      intro h' r hr hz ha' hk
      obtain ⟨hlen, hbd⟩ := hsm L[i] (List.getElem_mem hlt)
      have hT : H r = none := I.hok.fresh hz
      have new : ObjOk X.prog X.w (upd H r (.tup ((nI L[i]).map V.int))) h' r (.tup ((nI L[i]).map V.int)) :=
        ⟨by rw [List.length_map, List.length_map]; exact Nat.le_of_lt (small1000 (by omega)), _, pool_vals hi hbd, ⟨_, hr, rfl, _, rfl⟩⟩
      have I1 : Inv X pins σ (upd H r (.tup ((nI L[i]).map V.int))) { s with heap := h' } := I.turnedNew (t' := s.toks) (ch := [it]) (fun b o hb e => hk b o (fun z => hb (by simp [z])) e) (fun b hb => fp b (by rw [List.mem_singleton.mp hb]; simp)) hz new
      have g1 : Gr F H (upd F r (.tup ((nI L[i]).map V.int))) (upd H r (.tup ((nI L[i]).map V.int))) := Gr.new g.fh hT
      have hrq : r ≠ q := fun z => by rw [z, hq] at hT; cases hT
      have hq1 : upd H r (.tup ((nI L[i]).map V.int)) q = some (.lst acc) := g1.h _ _ hq
      have fq1 : upd F r (.tup ((nI L[i]).map V.int)) q = none := by rw [upd_ne (Ne.symm hrq)]; exact fq
      have hlacc : acc.length = i := by rw [ra.length, List.length_map, List.length_take]; omega
      obtain ⟨z, its, k, r2, hl, e⟩ := I1.lstM hq1
      have hlit : its.length = i := by rw [← hlacc]; exact r2.length.symm
      have hll := line63
      refine wpAny_bind (wpAny_updateSeq e rfl (wpAny_pure ⟨plainId_quiet PySem.F.plain_extend_loop _, ?_⟩) (by rw [List.size_toArray, sizeLine_eq]; omega) (by show (its.toArray.push (Value.ref r)).size ≤ sizeLine + 1; rw [Array.size_push, List.size_toArray, sizeLine_eq]; omega))
      have rv : RelV (V.ref r) (Value.ref r) := rfl
      have I2 := I1.lset (its' := its ++ [Value.ref r]) (t' := s.toks) (f := (·.push (Value.ref r))) hq1 e (by simp) (r2.append (.cons rv .nil)) (by rw [List.length_append, List.length_singleton, hlacc, sizeLine_eq]; omega)
      have hlb : ∀ b ∈ [it, pool], b < s.heap.objs.size := fun b hb => by
        rcases List.mem_cons.mp hb with z | z
        · rw [z]
          obtain ⟨_, q⟩ := ha
          exact Heap.lt_size q
        · rw [List.mem_singleton.mp z]
          obtain ⟨_, q, _⟩ := hp
          exact Heap.lt_size q
      have oth : ∀ b o, b ≠ q → h'.get? b = some o → (h'.update q (Obj.mapSeq (·.push (Value.ref r)))).get? b = some o := fun b o hb e => (Heap.get?_update_other _ _ (Ne.symm hb)).trans e
      refine ih (i + 1) (acc ++ [.ref r]) (upd F r (.tup ((nI L[i]).map V.int))) _ _ (by omega) hlt I2 ⟨⟨hlt, ?_, L[i], hy, at_co_keep ha' fun o e => oth it o (Ne.symm hqi) e⟩, fun b hb => ?_⟩ ((g.trans g1).mut hq0 fq1) fq1 upd_same ?_
      · exact (hp.extBut (b := it) (fun b o hb e => hk b o hb e) (Ne.symm hne)).extBut (b := q) (fun b o hb e => oth b o hb e) (Ne.symm hqp)
      · obtain ⟨f0, f1⟩ := fp b hb
        refine ⟨?_, f1⟩
        have hbq : b ≠ q := fun z => by rw [z, hq] at f0; cases f0
        rw [upd_ne hbq, upd_ne (Nat.ne_of_lt (Nat.lt_of_lt_of_le (hlb b hb) hz))]
        exact f0
      · have tk : L.take (i + 1) = L.take i ++ [L[i]] := by rw [List.take_add_one, hy]; rfl
        rw [tk, List.map_append]
        exact (RpAll.mono g1.f _ _ ra).append (.cons (Rp.tup upd_same (RpAll.of_ints _)) .nil)
    have hxl := (hsm x (List.mem_of_getElem? hx)).1
    by_cases h0 : i = 0
    · subst h0
      have e : x = L[0] := Option.some.inj (hx.symm.trans hy)
      subst e
      exact wpAny_bind ((hstep hp hne hh hxl).1 ha fin)
    · rw [if_neg h0] at ha
      obtain ⟨k, rfl⟩ : ∃ k, i = k + 1 := ⟨i - 1, by omega⟩
      exact wpAny_bind ((hstep hp hne hh hxl).2.1 L[k + 1] ha (hsm _ (List.getElem_mem hlt)).1 (by rw [hi.1]; exact chain_at hch hx hy) fin)
theorem co_extend {A : Around} {Rs : Result → Shared → Prop} {F0 H0 F H : Hp} {s : Shared} {it pool q : Addr} {items : Array Value} {n : Nat} {L : List (List Nat)} (hh : A.in1.handled = none) (hL : (n, L) ∈ co22) (hi : Pool items n) (hne : it ≠ pool) (hq0 : H0 q = none) (hqi : q ≠ it) (hqp : q ≠ pool) (hLl : L.length ≤ 100)
    (hdone : ∀ F H s acc, Inv X pins σ H s → Gr F0 H0 F H → F q = none → H q = some (.lst acc) → RpAll F acc (L.map fun l => dI (nI l)) → Rs (.ok (.ret .none)) s)
    (I : Inv X pins σ H s) (hr : CoRun X pins H it pool items n L 0 s.heap) (g : Gr F0 H0 F H) (fq : F q = none) (hq : H q = some (.lst [])) :
    wpAny (model X.prog X.w) A.in1 (Builtin.List.listExtendWith (.ref q) (.ref it) .none)
      (fun fin s' => match fin with | .done f => Rs (.ok f) s' | .again c' => c'.quiet = true ∧ codeAny (model X.prog X.w) A c' Rs s') (fun e s' => Rs (.error e) s') s := by
  obtain ⟨⟨h1, hp, x, hx, ha⟩, fp⟩ := hr
  have hT : s.TypeIs (.ref it) "itertools.combinations" := by obtain ⟨l, e⟩ := ha; exact ⟨_, e, rfl⟩
  unfold Builtin.List.listExtendWith
  refine wpAny_bind (wpAny_typeOf hT ?_)
  have h1' : Builtin.List.listSameRef (.ref q) (.ref it) = false := by simp [Builtin.List.listSameRef, hqi]
  have h2 : (Value.type "itertools.combinations" == Value.type "list") = false := by decide
  have h3 : (Value.type "itertools.combinations" == Value.type "tuple") = false := by decide
  simp only [h1', h2, h3, Bool.or_false, Bool.false_eq_true, if_false]
  refine wpAny_bind (co_self ha ?_)
  refine wpAny_bind (wpAny_holding ?_)
  unfold Builtin.List.listLengthHint
  refine wpAny_bind (wpAny_specialOf hT nolen_co ?_)
  show wpAny _ A.in1 (specialOf (Value.ref it) (Str.ofString "__length_hint__") >>= _) _ _ _
  refine wpAny_bind (wpAny_specialOf hT nohint_co ?_)
  refine wpAny_pure ?_
  obtain ⟨z, its, k, r3, hl3, e3⟩ := I.lstM hq
  cases r3
  show wpAny _ A.in1 (rule "list.extend.makes-room" >>= fun _ => Builtin.List.listTouch (.ref q) >>= fun _ =>
    again (.builtin "list.extend.loop" ⟨[.ref q, .ref it, .none], []⟩)) _ _ _
  refine wpAny_bind (wpAny_rule ?_)
  refine wpAny_bind ?_
  show wpAny _ _ (updateSeq q (·.push .none) >>= fun _ => updateSeq q (·.pop)) _ _ _
  refine wpAny_bind (wpAny_updateSeq e3 rfl ?_)
  have I2 := I.lset (f := (·.push Value.none)) (its' := [Value.none]) (ys := [.non]) (t' := s.toks) hq e3 (by simp) (.cons rfl .nil) (by rw [List.length_singleton, sizeLine_eq]; decide)
  obtain ⟨z4, its4, k4, r4, hl4, e4⟩ := I2.lstM upd_same
  obtain ⟨u4, rfl, ru4⟩ := r4.one
  refine wpAny_updateSeq e4 rfl ?_ (by show 1 ≤ sizeLine; rw [sizeLine_eq]; decide) (by show 0 ≤ sizeLine + 1; exact Nat.zero_le _)
  have I3 := I2.lset (f := (·.pop)) (its := [u4]) (its' := []) (ys := []) (t' := s.toks) upd_same e4 (by rfl) .nil (Nat.zero_le _)
  rw [upd_upd] at I3
  have hH : upd H q (.lst []) = H := by
    funext b
    by_cases hb : b = q
    · rw [hb, upd_same, hq]
    · rw [upd_ne hb]
  rw [hH] at I3
  have oth : ∀ b o, b ≠ q → s.heap.get? b = some o → ((s.heap.update q (Obj.mapSeq (·.push Value.none))).update q (Obj.mapSeq (·.pop))).get? b = some o := fun b o hb e => (Heap.get?_update_other _ _ (Ne.symm hb)).trans ((Heap.get?_update_other _ _ (Ne.symm hb)).trans e)
  refine wpAny_pure ⟨plainId_quiet PySem.F.plain_extend_loop _, co_loop hh hL hi hne hq0 hqi hqp hLl hdone _ 0 [] F H _ rfl (Nat.zero_le _) I3 ⟨⟨h1, hp.extBut (b := q) (fun b o hb e => oth b o hb e) (Ne.symm hqp), x, hx, at_co_keep ha fun o e => oth it o (Ne.symm hqi) e⟩, fp⟩ g fq hq .nil⟩
end
section
variable {X : Cx} {e a b : Expr} {pos : Pos} {B : Bs} {ρ : List Sl} {tg : Expr} {p p2 p3 pos2 pos3 : Pos}
/-- list(combinations(range(n), k)) -/
theorem dlistCo {n k : Nat} {ck : Expr} (hml : X.mg "list" = none) (hmr : X.mg "range" = none) (hmc : X.mg "combinations" = some (.type "itertools.combinations")) (hc : X.calm = true) (ha : PE X a (tV X.w B ρ (.pu (.int (n : Int))))) (hk : PE X ck (tV X.w B ρ (.pu (.int (k : Int))))) (hn : n ∈ [2, 3, 4]) (h1 : 1 ≤ k) (h2 : k ≤ n)
    (hgl : Gl X "list" := by rfl) (hgr : Gl X "range" := by rfl) (hgc : Gl X "combinations" := by rfl) (na : starEach [a] X.env = (false, eval a X.env) :: starEach [] X.env := by rfl)
    (hs : starEach [.Call (.Name "range" p) [a] [] pos, ck] X.env = (false, eval (.Call (.Name "range" p) [a] [] pos) X.env) :: starEach [ck] X.env := by rfl) (hs2 : starEach [ck] X.env = (false, eval ck X.env) :: starEach [] X.env := by rfl) (hp : (backTo pos2 (starEach [ck] X.env)).any (·.1) = false := by rfl)
    (hs3 : starEach [.Call (.Name "combinations" p2) [.Call (.Name "range" p) [a] [] pos, ck] [] pos2] X.env = (false, eval (.Call (.Name "combinations" p2) [.Call (.Name "range" p) [a] [] pos, ck] [] pos2) X.env) :: starEach [] X.env := by rfl) :
    PE X (.Call (.Name "list" p3) [.Call (.Name "combinations" p2) [.Call (.Name "range" p) [a] [] pos, ck] [] pos2] [] pos3) (tN X.w B ρ (.ol ((coL n k).map fun l => dI (nI l)))) := by
  refine ⟨fun pins s σ H Q I ⟨F, a1, qk⟩ => ?_⟩
  have h5 : n ≤ 4 := by simp at hn; omega
  obtain ⟨hmem, hhead⟩ := co_mem n hn k (by simp; omega) h1 h2
  refine Call_ (ld_blt I hgl hml boot_list' (PyProof.Rows.callWith_type1 (args_cons (Call_ (ld_glob I hgc hmc (PyProof.Rows.callWith_type1 (thn (co_args hmr ha hk hgr na hs hs2 I a1) fun vs s1 ⟨r, t, F1, H1, ev, hr, I1, g1⟩ => ?_) hs hp))) hs3) hs3))
  subst ev
  refine call_co (I1.ok.hd hc) hr (by omega) h2 fun h' tk items hkp hi => args_nil ?_
  have I2 : Inv X pins σ H1 { s1 with heap := h', toks := tk } := I1.kept hkp
  have I3 : Inv X pins σ H1 { s1 with heap := coHeap h' items k, toks := tk } := I1.kept fun b o e => Heap.get?_push_of_some _ (Heap.get?_push_of_some _ (hkp b o e))
  have hne : h'.objs.size + 1 ≠ h'.objs.size := by omega
  have hfp : ∀ b ∈ [h'.objs.size + 1, h'.objs.size], FpOk X pins H1 b := fun b hb => by
    rcases List.mem_cons.mp hb with z | z
    · rw [z]
      exact I2.fpOk (Nat.le_succ _) (I2.hok.fresh (Nat.le_succ _))
    · rw [List.mem_singleton.mp z]
      exact I2.fpOk (Nat.le_refl _) (I2.hok.fresh (Nat.le_refl _))
  generalize hHc : coHeap h' items k = hc2 at I3
  have hco : AtCo hc2 (h'.objs.size + 1) h'.objs.size 0 (List.range k) := by rw [← hHc]; exact ⟨_, co_get⟩
  have hpl : IsTup hc2 h'.objs.size items := by rw [← hHc]; exact co_pool
  have hlt : h'.objs.size + 1 < hc2.objs.size := by obtain ⟨l, e⟩ := hco; exact Heap.lt_size e
  have fr : H1 hc2.objs.size = none := I3.hok.fresh (Nat.le_refl _)
  refine callType_codes (Q₁ := fun obj s₁ => obj = .ref hc2.objs.size ∧ s₁ = { s1 with heap := hc2.push { cls := .type "list", data := .seq #[] }, toks := tk }) PySem.F.called_list (PySem.F.typeCall_list_1 _) PySem.F.entry_list_init
    (code_list_new _ ⟨rfl, rfl⟩) fun obj s₁ h₁ => ?_
  obtain ⟨rfl, rfl⟩ := h₁
  have hS : (hc2.push { cls := .type "list", data := .seq #[] }).get? hc2.objs.size = some { cls := .type "list", data := .seq #[] } := Heap.get?_push_size _ rfl
  refine ⟨⟨_, hS, rfl⟩, PySem.F.args_list_init_2 _ _, ?_⟩
  have I4 : Inv X pins σ (upd H1 hc2.objs.size (.lst [])) { s1 with heap := hc2.push { cls := .type "list", data := .seq #[] }, toks := tk } := I3.lnew (its := []) (t' := tk) .nil (Nat.zero_le _)
  show wpAny _ _ (do let old ← Builtin.List.listItems (.ref hc2.objs.size); Builtin.List.listUpdate (.ref hc2.objs.size) (fun _ => #[]); letGo old.toList.reverse; Builtin.List.listExtendWith (.ref hc2.objs.size) (.ref (h'.objs.size + 1)) .none) _ _ _
  refine wpAny_bind ?_
  unfold Builtin.List.listItems
  refine wpAny_bind (wpAny_seqItems hS rfl (wpAny_pure ?_))
  show wpAny _ _ (updateSeq hc2.objs.size (fun _ => #[]) >>= fun _ => letGo (#[] : Array Value).toList.reverse >>= fun _ => Builtin.List.listExtendWith (.ref hc2.objs.size) (.ref (h'.objs.size + 1)) .none) _ _ _
  refine wpAny_bind (wpAny_updateSeq hS rfl ?_)
  have I5 := I4.lset (f := fun _ => #[]) (its := []) (its' := []) (ys := []) (t' := tk) upd_same hS rfl .nil (Nat.zero_le _)
  rw [upd_upd] at I5
  refine wpAny_bind (wpAny_letGo ?_)
  have fF : F1 hc2.objs.size = none := g1.fh.free fr
  have hH0 : H hc2.objs.size = none := g1.h.free fr
  have oth : ∀ b o, b ≠ hc2.objs.size → hc2.get? b = some o → ((hc2.push { cls := .type "list", data := .seq #[] }).update hc2.objs.size (Obj.mapSeq fun _ => #[])).get? b = some o := fun b o hb e => (Heap.get?_update_other _ _ (Ne.symm hb)).trans (Heap.get?_push_of_some _ e)
  have hL100 : (coL n k).length ≤ 100 := by
    have : ∀ t ∈ co22, t.2.length ≤ 100 := by decide
    exact this _ hmem
  refine co_extend (A := X.A.in1) (F0 := F) (H0 := H) (F := F1) (Rs := wants (fun r s₂ => r = .none ∧ EP X pins σ Q (.ref hc2.objs.size) s₂) X.xe) (by exact I5.ok.hd hc) hmem hi hne hH0 (Nat.ne_of_gt hlt) (Nat.ne_of_gt (by omega)) hL100
    (fun F' H' s' acc I' g' fq hq ra => ⟨rfl, .ref hc2.objs.size, H', I', rfl, qk _ F' H' g' ⟨_, acc, rfl, fq, hq, ra⟩ (nol hH0)⟩) I5 ⟨⟨Nat.zero_le _, ?_, List.range k, hhead, at_co_keep hco fun o e => oth _ o (Nat.ne_of_lt hlt) e⟩, fun b hb => ?_⟩ ?_ fF upd_same
  · exact hpl.extBut (b := hc2.objs.size) (fun b o hb e => oth b o hb e) (Nat.ne_of_lt (by omega))
  · obtain ⟨f0, f1⟩ := hfp b hb
    have hbq : b ≠ hc2.objs.size := fun z => by
      rcases List.mem_cons.mp hb with y | y
      · exact absurd (y.symm.trans z) (Nat.ne_of_lt hlt)
      · exact absurd ((List.mem_singleton.mp y).symm.trans z) (Nat.ne_of_lt (Nat.lt_of_succ_lt hlt))
    exact ⟨by rw [upd_ne hbq]; exact f0, f1⟩
  · exact g1.trans (Gr.raw g1.fh fr)
end
end GY
namespace GY
open PySem PySem.Spec PyProof.Rows L2

/-! ## tuples known whole -/
abbrev wT (its : Array Value) : Obj := { cls := .type "tuple", data := .seq its }
section
variable {X : Cx} {e a b o i : Expr} {pos : Pos} {B : Bs} {ρ ρ' : List Sl} {s s1 s2 : Sl} {d : PyData} {ds es : List PyData} {p : Pos}
/-- from whole to plain -/
theorem dwh (h : PE X e (tV X.w B ρ (.pu (xD ds)))) (n : NK ds := by trivial) : PE X e (tV X.w B ρ (.pu (.tuple ds))) :=
  weakE h fun σ H Q ⟨F, a, q⟩ => ⟨F, a, fun v F1 H1 g o => q v F1 H1 g (o.whole n)⟩
theorem laid_w {pins : List (Addr × Obj)} {σ : L2.St} {H : Hp} {s : Shared} {us : List Value} {xs : List V} {h' : Heap} {t : Nat} (I : Inv X pins σ H s) (k : ∀ b u, s.heap.get? b = some u → h'.get? b = some u) (p : Addr) (hp : s.heap.objs.size ≤ p) (e : h'.get? p = some (wT us.toArray)) (r : Vals xs us) (z : xs.length ≤ sizeLine) :
    Inv X pins σ (upd H p (.frz (wT us.toArray) (.tup xs))) { s with heap := h', toks := t } :=
  I.laid k hp (show ObjOk X.prog X.w _ _ _ (.frz (wT us.toArray) (.tup xs)) from ⟨e, z, us, r, ⟨_, e, rfl, _, rfl⟩⟩)
theorem dtupX {es : List Expr} {x1} (h : PA X es (tA X.w B ρ (ds.map .pu))) (hl : ds.length ≤ 1000 := by decide) : PE X (.Tuple es x1 pos) (tV X.w B ρ (.pu (xD ds))) := by
  refine ⟨fun pins s σ H Q I ⟨F, a, k⟩ => ?_⟩
  refine wpAny_Tuple_spliced (thn (h.run pos pins s σ H (fun xs H1 => ∃ F1, Gr F H F1 H1 ∧ RpAll F1 xs ds) I ⟨F, a, fun vs F1 H1 g o => ⟨F1, g, o.pus⟩⟩) fun us s1 ⟨xs, H1, I1, r, F1, g, o⟩ => ?_)
  have z : xs.length ≤ sizeLine := by rw [o.length]; exact Nat.le_of_lt (small1000 hl)
  refine ⟨by rw [← r.length]; exact z, ?_⟩
  have hf : H1 s1.heap.objs.size = none := I1.hok.fresh (Nat.le_refl _)
  refine ⟨.ref s1.heap.objs.size, _, laid_w (t := s1.toks) I1 (fun b u e => Heap.get?_push_of_some _ e) s1.heap.objs.size (Nat.le_refl _) (Heap.get?_push_size _ rfl) r z, rfl, k _ _ _ (g.trans (Gr.new g.fh hf)) (Rp.xt upd_same (RpAll.mono (same_upd (g.fh.free hf)) _ _ o))⟩
/-- tuple(xs), whole -/
theorem tupl_run {F H : Hp} {pins : List (Addr × Obj)} {s : Shared} {σ : L2.St} {l : Addr} {xs : List V} {Q : VK} (I : Inv X pins σ H s) (f : Same F H) (hs : SqL X.K H l xs) (r : RpAll F xs ds) (hl : ds.length ≤ 1000) (k : ∀ v F' H', Gr F H F' H' → VOk X.w F' H' v (.pu (xD ds)) → (∀ a, (Sl.pu (xD ds)).own = true → v = .ref a → H a = none) → Q v H') :
    wpAny (model X.prog X.w) X.A (call (.type "tuple") [.ref l]) (EP X pins σ Q) X.xe s := by
  obtain ⟨its, rv, pl, hz⟩ := I.list hs
  refine call_tuple_list pl.isList (fun h' hk => ?_) (by rw [List.size_toArray, ← rv.length]; exact hz)
  have I1 : Inv X pins σ H { s with heap := h' } := I.kept (t' := s.toks) hk
  have hf : H h'.objs.size = none := I1.hok.fresh (Nat.le_refl _)
  exact ⟨.ref h'.objs.size, _, laid_w (t := s.toks) I1 (fun b o e => Heap.get?_push_of_some _ e) h'.objs.size (Nat.le_refl _) (Heap.get?_push_size _ rfl) rv hz, rfl, k _ _ _ (Gr.new f hf) (Rp.xt upd_same (RpAll.mono (same_upd (f.free hf)) _ _ r)) npu⟩
theorem dtupleX {s0 : Sl} (hm : X.mg "tuple" = none) (h : PE X e (tV X.w B ρ s0)) (hd : s0 = .ol ds ∨ s0 = .pu (.list ds) := by first | exact Or.inl rfl | exact Or.inr rfl) (hl : ds.length ≤ 1000) (hg : Gl X "tuple" := by rfl) (he : starEach (e :: []) X.env = (false, eval e X.env) :: starEach [] X.env := by rfl) :
    PE X (.Call (.Name "tuple" p) [e] [] pos) (tV X.w B ρ (.pu (xD ds))) := by
  refine ⟨fun pins s σ H Q I ⟨F, a, k⟩ => ?_⟩
  refine Call_ (ld_blt I hg hm boot_tuple' (PyProof.Rows.callWith_type1 (one_arg h I (R := fun x H1 => ∃ F1, Gr F H F1 H1 ∧ VOk X.w F1 H1 x s0) ⟨F, a, fun v F1 H1 g o => ⟨F1, g, o⟩⟩ (fun v s2 x H2 I2 r q => ?_) he) he))
  obtain ⟨F1, g, o⟩ := q
  rcases hd with rfl | rfl
  · obtain ⟨q, xs, ex, _, hq, rr⟩ := o
    subst ex
    obtain rfl : v = .ref q := r
    exact tupl_run I2 g.fh (SqL.of hq) rr hl fun v F' H' g' o n => k v F' H' (g.trans g') o
  · obtain ⟨q, xs, ex, hq, rr⟩ := Rp.list_inv o
    subst ex
    obtain rfl : v = .ref q := r
    exact tupl_run I2 g.fh (SqL.of (g.fh _ _ hq)) rr hl fun v F' H' g' o n => k v F' H' (g.trans g') o
/-- t + u, whole -/
def rCatX (ds es : List PyData) (w : World) : R2 := fun x y H Q => ∃ F, Same F H ∧ Rp F x (xD ds) ∧ Rp F y (xD es) ∧ ∀ v F' H', Gr F H F' H' → Rp F' v (xD (ds ++ es)) → Q v H'
theorem op_catX (hl : ds.length + es.length ≤ 1000) : OpR X (binaryOp .Add) (rCatX ds es X.w) := by
  intro pins s σ H x y v u Q I rx ry h
  obtain ⟨F, f, ox, oy, k⟩ := h
  obtain ⟨a, ia, na, xs, ex, ha, ra⟩ := ox.x_inv
  obtain ⟨b, ib, nb, ys, ey, hb, rb⟩ := oy.x_inv
  subst ex ey
  cases rx
  cases ry
  obtain ⟨its, r1, p1, z1⟩ := I.tuple (sqt_rd (K := X.K) (rdm f (.inr ⟨_, ha⟩)))
  obtain ⟨its2, r2, p2, z2⟩ := I.tuple (sqt_rd (K := X.K) (rdm f (.inr ⟨_, hb⟩)))
  have l1 := ra.length
  have l2 := rb.length
  by_cases hx : xs = []
  · subst hx
    cases r1
    have e : ds = [] := List.eq_nil_of_length_eq_zero (by rw [← l1]; rfl)
    refine cat_tup0 p1 p2 ⟨.ref b, H, I, rfl, k _ F H (Gr.refl f) ?_⟩
    rw [e]
    exact oy
  · have hz : xs.length + ys.length ≤ sizeLine := by rw [l1, l2]; exact Nat.le_of_lt (small1000 hl)
    refine HT.cat_tup p1 p2 (fun z => hx (r1.nil_iff.mp z)) (fun z => ⟨.ref a, H, I, rfl, k _ F H (Gr.refl f) ?_⟩) (fun z => ?_) (by rw [← r1.length, ← r2.length]; exact hz)
    · have e : ys = [] := r2.nil_iff.mp z
      have e2 : es = [] := List.eq_nil_of_length_eq_zero (by rw [← l2, e]; rfl)
      rw [e2, List.append_nil]
      exact ox
    · have hf : H s.heap.objs.size = none := I.hok.fresh (Nat.le_refl _)
      exact ⟨.ref s.heap.objs.size, _, laid_w (t := s.toks) I (fun b ob q => Heap.get?_push_of_some _ q) s.heap.objs.size (Nat.le_refl _) (Heap.get?_push_size _ rfl) (r1.append r2) (by rw [List.length_append]; exact hz), rfl, k _ _ _ (Gr.new f hf) (Rp.xt upd_same (RpAll.mono (same_upd (f.free hf)) _ _ (ra.append rb)))⟩
theorem dcatX (ha : PE X a (tV X.w B ρ (.pu (xD ds)))) (hb : PE X b (tV X.w B ρ (.pu (xD es)))) (hl : ds.length + es.length ≤ 1000) : PE X (.BinOp a .Add b pos) (tV X.w B ρ (.pu (xD (ds ++ es)))) :=
  dV (dop (op_catX (ds := ds) (es := es) hl) ha hb fun x y F H Q f ox oy k => ⟨F, f, ox, oy, fun v F' H' g o => k v F' H' g o npu⟩)

/-! ## dict(pairs) -/
theorem tk_mono {P : Program} {w : World} {h h' : Heap} {ks : List Key} {a : Addr} (x : (tupleKind (mixKind P w)).is h ks a) (k : ∀ o, h.get? a = some o → h'.get? a = some o) : (tupleKind (mixKind P w)).is h' ks a := by
  obtain ⟨o, its, n, h1, r⟩ := x
  exact ⟨o, its, n, k _ h1, r⟩
/-- a pair of a key and a value -/
abbrev dKV (kv : List Int × PyData) : PyData := .tuple [dI kv.1, kv.2]
theorem pairs_at {pins : List (Addr × Obj)} {σ : L2.St} {F H : Hp} {s : Shared} (I : Inv X pins σ H s) (f : Same F H) : ∀ (kvs : List (List Int × PyData)) (xs : List V) (its : List Value), (∀ kv ∈ kvs, kv.1 ≠ []) → RpAll F xs (kvs.map dKV) → Vals xs its →
    ∃ (ts : List Addr) (trip : List (List Key × Addr × Value)) (ws : List (List Key × V)), its = ts.map Value.ref ∧ ts.length = kvs.length ∧ trip.map (·.1) = kvs.map (fun kv => kv.1.map Sum.inl) ∧ DictRep F ws kvs ∧
      Paired (fun (p : List Key × V) (q : List Key × Addr × Value) => p.1 = q.1 ∧ H q.2.1 = some (.tup (p.1.map kV)) ∧ RelV p.2 q.2.2) ws trip ∧
      (∀ x ∈ trip, (tupleKind (mixKind X.prog X.w)).is s.heap x.1 x.2.1) ∧ ∀ (j : Nat) (t : Addr), ts[j]? = some t → ∃ q : List Key × Addr × Value, trip[j]? = some q ∧ PairAt s.heap t (.ref q.2.1) q.2.2
  | [], _, _, _, .nil, .nil => ⟨[], [], [], rfl, rfl, rfl, .nil, .nil, (fun _ z => nomatch z), fun j t z => by simp at z⟩
  | kv :: kvs, _ :: xs, _ :: its, hk, .cons r rr, .cons rv rvs => by
    obtain ⟨ts, trip, ws, e1, e2, e3, e4, e5, e6, e7⟩ := pairs_at I f kvs xs its (fun q hq => hk q (List.mem_cons_of_mem _ hq)) rr rvs
    obtain ⟨t, ys, et, ht, ry⟩ := Rp.tuple_inv r
    cases ry with
    | cons rk ry =>
      cases ry with
      | cons rd ry =>
        cases ry
        obtain ⟨b, eb, hb⟩ := rk.key (hk kv List.mem_cons_self)
        subst et eb
        obtain rfl := (show _ = Value.ref t from rv)
        obtain ⟨pits, pv, ptup, _⟩ := I.tuple (sqt_rd (K := X.K) (rdm f ht))
        cases pv with
        | cons p1 pv =>
          cases pv with
          | @cons _ u _ _ p2 pv =>
            cases pv
            obtain rfl := (show _ = Value.ref b from p1)
            refine ⟨t :: ts, (kv.1.map Sum.inl, b, u) :: trip, (kv.1.map Sum.inl, _) :: ws, by rw [e1]; rfl, by simp [e2], by simp [e3], .cons ⟨rfl, rd⟩ e4, .cons ⟨rfl, f _ _ hb, p2⟩ e5, fun x hx => ?_, fun j t' hj => ?_⟩
            · rcases List.mem_cons.mp hx with z | z
              · rw [z]
                exact key_of I.hok (f _ _ hb)
              · exact e6 x z
            · cases j with
              | zero =>
                have e : t = t' := by simpa using hj
                subst e
                obtain ⟨o, h1, h2, n, h3⟩ := ptup
                exact ⟨_, rfl, .inl ⟨o, h1, h2, n, h3⟩⟩
              | succ j =>
                obtain ⟨q, h1, h2⟩ := e7 j t' (by simpa using hj)
                exact ⟨q, by simpa using h1, h2⟩
/-- dict(t) of pairs with different keys -/
theorem ddict {n : Nat} {kvs : List (List Int × PyData)} (hr : Room n X.A) (hc : X.calm = true) (hm : X.mg "dict" = none) (h : PE X e (tV X.w B ρ (.pu (xD (kvs.map dKV))))) (hk : ∀ kv ∈ kvs, kv.1 ≠ []) (hnd : (kvs.map (·.1)).Nodup) (hl : kvs.length ≤ 1000) (hg : Gl X "dict" := by rfl) (he : starEach (e :: []) X.env = (false, eval e X.env) :: starEach [] X.env := by rfl) :
    PE X (.Call (.Name "dict" p) [e] [] pos) (tN X.w B ρ (.od kvs)) := by
  refine ⟨fun pins s σ H Q I ⟨F, a, k⟩ => ?_⟩
  refine Call_ (ld_blt I hg hm boot_dict' (PyProof.Rows.callWith_type1 (one_arg h I (R := fun x H1 => ∃ F1, Gr F H F1 H1 ∧ Rp F1 x (xD (kvs.map dKV))) ⟨F, a, fun v F1 H1 g o => ⟨F1, g, o⟩⟩ (fun v s2 x H2 I2 r q => ?_) he) he))
  obtain ⟨F1, g, o⟩ := q
  obtain ⟨q, ia, na, xs, ex, hq, rx⟩ := o.x_inv
  subst ex
  obtain rfl : v = .ref q := r
  obtain ⟨eo, zx, its, rv, o', ho', _, n', hd'⟩ := (show ObjOk X.prog X.w H2 s2.heap q (.frz _ (.tup xs)) from I2.hok q _ (g.fh _ _ hq))
  have hoo : o' = { cls := .type "tuple", data := .seq ia na } := Option.some.inj (ho'.symm.trans eo)
  subst hoo
  obtain ⟨ts, trip, ws, e1, e2, e3, e4, e5, e6, e7⟩ := pairs_at I2 g.fh kvs xs its hk rx rv
  have lt : trip.length = kvs.length := by have := congrArg List.length e3; simpa using this
  have hia : ia = its.toArray := by cases hd'; rfl
  have hnt : (trip.map (·.1)).Nodup := by
    rw [e3, show kvs.map (fun kv => kv.1.map (Sum.inl : Int → Key)) = (kvs.map (·.1)).map (fun l => l.map Sum.inl) by rw [List.map_map]; rfl]
    refine List.Pairwise.map _ (fun x y hxy z => hxy (inl_inj z)) hnd
  refine call_dict_pairsH (knd := tupleKind (mixKind X.prog X.w)) (ps := trip) (PairArg.tuple q ia (fun j => ts.getD j 0) (trip.map fun t => (Value.ref t.2.1, t.2.2))) (I2.ok.hd hc) ?_ ⟨⟨_, _, eo, rfl, rfl, rfl⟩, ?_⟩ ?_ ?_ ?_ fun h' tk hd hkp => ?_
  · have := hr.un
    show X.A.in1.in1.units < cLine
    simp only [Around.in1]
    omega
  · refine ⟨by rw [hia, List.size_toArray, e1, List.length_map, List.length_map, e2, lt], fun j kk vv hj => ?_⟩
    rw [List.getElem?_map] at hj
    cases hq2 : trip[j]? with
    | none => rw [hq2] at hj; cases hj
    | some t3 =>
      rw [hq2] at hj
      cases hj
      have hjl : j < ts.length := by rw [e2, ← lt]; exact (List.getElem?_eq_some_iff.mp hq2).1
      have htj : ts[j]? = some ts[j] := List.getElem?_eq_getElem hjl
      obtain ⟨t4, h1, h2⟩ := e7 j _ htj
      rw [hq2] at h1
      cases h1
      have hgd : ts.getD j 0 = ts[j] := by rw [List.getD_eq_getElem?_getD, htj]; rfl
      have hgd' : (fun j => ts.getD j 0) j = ts[j] := hgd
      refine ⟨?_, by rw [hgd']; exact h2⟩
      rw [hia, hgd', e1]
      simp [htj]
  · refine ⟨by rw [List.length_map], fun j kk vv hj => ?_⟩
    have hj : (trip.map fun t => (Value.ref t.2.1, t.2.2))[j]? = some (kk, vv) := hj
    rw [List.getElem?_map] at hj
    cases hq2 : trip[j]? with
    | none => rw [hq2] at hj; cases hj
    | some t3 =>
      rw [hq2] at hj
      cases hj
      exact ⟨_, _, rfl, rfl⟩
  · intro h' hkk x hx
    exact tk_mono (e6 x hx) fun o ho => hkk _ o (Nat.ne_of_lt (Heap.lt_size ho)) (by simp) ho
  · rw [List.length_map, lt]
    exact Nat.le_of_lt (small1000 hl)
  · rw [storedAllH_nil_of_nodup trip hnt] at hd
    have hf : H2 s2.heap.objs.size = none := I2.hok.fresh (Nat.le_refl _)
    have hms : (s2.heap.objs.size == sysModules) = false := beq_eq_false_iff_ne.mpr (Nat.ne_of_gt I2.big)
    have lw : ws.length = kvs.length := dict_len e4
    obtain ⟨od, es', ep, h1, h2, h3, h4, _, h5⟩ := hd
    have ne2 : ∀ b u, H2 b = some u → b ≠ s2.heap.objs.size := fun b u e => ne_of_none e hf
    have I3 : Inv X pins σ (upd H2 s2.heap.objs.size (.dT ws)) { s2 with heap := h', toks := tk } :=
      I2.laid (t' := tk) (fun b o e => hkp b o (by simp) e) (Nat.le_refl _) (show ObjOk X.prog X.w _ _ _ (.dT ws) from ⟨by rw [lw]; exact Nat.le_of_lt (small1000 hl), hms, trip, Paired.mono (fun p q z => ⟨z.1, by rw [upd_ne (ne2 _ _ z.2.1)]; exact z.2.1, z.2.2⟩) e5, od, es', ep, h1, h2, h3, h4, h5⟩)
    exact ⟨.ref s2.heap.objs.size, _, I3, rfl, k _ F1 _ (g.trans (Gr.raw g.fh hf)) ⟨_, ws, rfl, g.fh.free hf, upd_same, e4⟩ fun c _ ec => by
      injection ec with ec
      rw [← ec]
      exact g.h.free hf⟩
end
end GY
namespace GY
open PySem PySem.Spec PyProof.Rows L2
section
variable {X : Cx} {e a b o i : Expr} {pos : Pos} {B : Bs} {ρ ρ' : List Sl} {s s1 s2 : Sl} {d : PyData} {ds es : List PyData} {p : Pos}
/-- a new tuple of ints, for a key -/
theorem dktup {es : List Expr} {x1} {k : List Int} (h : PA X es (tA X.w B ρ ((k.map PyData.int).map .pu))) (hl : k.length ≤ 1000 := by decide) : PE X (.Tuple es x1 pos) (tV X.w B ρ (.kt k)) :=
  weakE (pe_tup h) fun σ H Q ⟨F, a, q⟩ => ⟨F, a, fun vs F1 H1 g1 o1 => ⟨by rw [o1.pus.length, List.length_map]; exact Nat.le_of_lt (small1000 hl), fun p hp =>
    q _ _ _ (g1.trans (Gr.new g1.fh hp)) ⟨p, rfl, by rw [upd_same, o1.pus.ints, keyV]⟩⟩⟩
/-- {k: v} -/
theorem ddisp1 {n : Nat} {k v : Expr} {kk : List Int} (hr : Room n X.A) (hk : PE X k (tV X.w B ρ (.kt kk))) (hv : PE X v (tV X.w B ρ (.pu d))) : PE X (.Dict [some k] [v] pos) (tN X.w B ρ (.od [(kk, d)])) := by
  refine ⟨fun pins s σ H Q I ⟨F, a, q⟩ => ?_⟩
  have hn := I.hok.fresh (Nat.le_refl s.heap.objs.size)
  have I1 := I.laid (a := s.heap.objs.size) (o := .dT []) (h' := s.heap.push { cls := .type "dict", data := .dict #[] }) (t' := s.toks) (fun _ _ q => Heap.get?_push_of_some _ q) (Nat.le_refl _) (dt_empty s.heap I.big)
  have g0 : Gr F H F (upd H s.heap.objs.size (.dT [])) := Gr.raw a.fh hn
  have hrun := (pps_cons hk hv pps_nil (pos := pos)).run pins _ σ _ (fun ps H2 => ∃ F2, Gr F (upd H s.heap.objs.size (.dT [])) F2 H2 ∧ ∃ b y, ps = [(.ref b, y)] ∧ F2 b = some (.tup ((kk.map (Sum.inl : Int → Key)).map kV)) ∧ Rp F2 y d) I1 ⟨F, a.grow g0, fun x F1 H1 g1 ⟨b, eb, hb⟩ => ⟨F1, (a.grow g0).grow g1, fun y F2 H2 g2 oy => ⟨F2, g1.trans g2, b, y, by rw [eb], g2.f _ _ hb, oy⟩⟩⟩
  rw [arm_eval_Dict, zip_pairTrees [some k] [v] X.env pos rfl rfl, dictDisplay_pairs (pairTrees [some k] [v] X.env pos) (by simp [pairTrees]) (by simp [pairTrees])]
  refine wpAny_bind (wpAny_standAt (wpAny_bind (wpAny_subDictH (knd := tupleKind (mixKind X.prog X.w)) (Nat.lt_of_succ_lt (hu_of hr)) (by simp [pairTrees]) (thn hrun fun ws s2 ⟨ps, H2, I2, rel, F2, g2, b, y, ep, hb, oy⟩ => ?_))))
  subst ep
  cases rel with
  | @cons _ q0 _ _ h1 t =>
    cases t
    obtain ⟨kv, u⟩ := q0
    obtain ⟨h1, h2⟩ := h1
    obtain rfl := (show kv = Value.ref b from h1)
    have hd := g2.h _ _ (upd_same (H := H) (a := s.heap.objs.size) (o := .dT []))
    obtain ⟨z, hms, xs, rx, dd⟩ := dt_of I2.hok hd
    cases rx
    have fS : F2 s.heap.objs.size = none := g2.nw _ (a.fh.free hn) ⟨_, upd_same, fun _ z => by cases z⟩
    refine ⟨[(kk.map Sum.inl, b, u)], ⟨rfl, rfl, key_of I2.hok (g2.fh _ _ hb), trivial⟩, dd, fun h' tk hd' hs => wpAny_pure ?_⟩
    obtain ⟨od, es', ep, e1, e2, e3, e4, _, e5⟩ := hd'
    have hne : b ≠ s.heap.objs.size := fun z => by rw [z, fS] at hb; cases hb
    have I3 : Inv X pins σ (upd H2 s.heap.objs.size (.dT [(kk.map Sum.inl, y)])) { s2 with heap := h', toks := tk } :=
      d_write I2 (by rw [hd]; exact True.intro) hs ⟨od, e1⟩ (show ObjOk X.prog X.w _ _ _ (.dT [(kk.map Sum.inl, y)]) from ⟨by show 1 ≤ sizeLine; rw [sizeLine_eq]; decide, hms, [(kk.map Sum.inl, b, u)], .cons ⟨rfl, by rw [upd_ne hne]; exact g2.fh _ _ hb, h2⟩ .nil, od, es', ep, e1, e2, e3, e4, e5⟩)
    refine ⟨.ref s.heap.objs.size, _, I3, rfl, q _ F2 _ ((g0.trans g2).mut hn fS) ⟨_, _, rfl, fS, upd_same, .cons ⟨rfl, oy⟩ .nil⟩ fun c _ ec => ?_⟩
    injection ec with ec
    rw [← ec]
    exact hn
end
end GY
namespace GY
open PySem PySem.Spec PyProof.Rows L2

section
variable {X : Cx} {e a b o i : Expr} {pos pos2 : Pos} {B : Bs} {ρ ρ' : List Sl} {s s1 s2 : Sl} {d : PyData} {ds es : List PyData} {p : Pos} {N M : List Sl → Prop} {R : Sl → List Sl → Prop}
/-- X() of an own exception class -/
theorem pmk_none {C : Addr} {bmB : List Value} {Bn newId initId : String} {x : Str} (F : ExcBaseFacts Bn newId initId bmB) (q : PySem.W.excIn X.K C bmB newId = true) (gC : X.mg x = some (.ref C))
    (kC : PySem.W.keepIn X.K (.ref C) = true) (r : Raises X (.ref C)) (hg : Gl X x) (hdb : (x == ("__debug__" : Str)) = false := by decide) :
    PMk X (.Call (.Name x p) [] [] pos) (fun σ H Q => Q (.ref C) none H) := by
  intro pins s σ H Q I h
  refine wpAny_Call_Name_kw (ld_glob I hg gC ?_ hdb)
  refine PySem.W.callWith_K0 I.kIn kC ?_
  show wpAny _ _ (call (.ref C) []) _ _ _
  obtain ⟨bm, N, nm, qn, bs, hdct, sn, sub, ab, col, dd, k0, k1, k2, k3, k5, mN, hC, hN, hni, T⟩ := exc_obj I.kIn q
  refine wpAny_call_exc_subT F T hC hN hni (fun h' e hm => ?_) (by show 0 ≤ sizeLine; exact Nat.zero_le _)
  exact mk_of I hm r h (I.hok.gone hm.new)
theorem hs_raise {C : Addr} {E : XK} (hc : X.calm = true) (tk : Takes X (fun cls d _ H => E cls d H)) (he : PMk X e (fun σ H Q => Q (.ref C) none H)) (k : ∀ H', Same B.2 H' → E (.ref C) none H') : PS X (.Raise (some e) none pos) (tH X.w B ρ N R) :=
  weakS (ps_raise hc tk he) fun D σ H ⟨F, a, _, _⟩ => k H a.gr.h
end
end GY
namespace GY
open PySem PySem.Spec PyProof.Rows L2 PySem.W

/-! ## min of data -/
section
variable {prog : Program} {w : World} {A : Around} {E : Value → Shared → Prop} {s : Shared}
theorem min_data {l : Addr} {vs : Array Value} {x : PyData} {xs : List PyData} {as : List Addr} {Q : Value → Shared → Prop} (hh : A.handled = none) (hl : s.heap.IsList l vs) (hr : ReadsAll s.heap vs.toList (x :: xs) as) (ha : AlikeAll (x :: xs)) (hu : A.units + 1 + PyData.depthAll (x :: xs) < cLine)
    (h : ∀ (i : Nat) v h' tk, vs[i]? = some v → (x :: xs).getD i .none = minD x xs → (∀ b o, s.heap.get? b = some o → h'.get? b = some o) → Q v { s with heap := h', toks := tk }) :
    wpAny (model prog w) A (call (.builtin "min") [.ref l]) Q E s := by
  have hn : vs.size = xs.length + 1 := readsAll_len hr
  refine call_min_walkH (iter_listW (A := A.in1) hh hl fun s₂ e W st hfp hw hk => ?_)
  refine ⟨_, _, _, _, _, _, _, s.heap, _, rfl, W, st, hfp, by omega, hw, hk, cmpIn_lt (A := A.in1) hr ha (by show A.units + 1 + _ < _; exact hu), fun v s' hP m => ?_⟩
  obtain ⟨h', tk, rfl, hk'⟩ := moved_old e rfl m
  have e1 : vs.size - 1 = xs.length := by omega
  have e2 := (argBest_fold dataLt PyData.none x xs xs.length (Nat.le_refl _)).2
  rw [List.take_length] at e2
  rw [e1] at hP
  exact h _ v h' tk hP e2 hk'
end
theorem getD_of {α : Type} {xs : List α} {i : Nat} {a x : α} (h : xs[i]? = some a) : xs.getD i x = a := by rw [List.getD_eq_getElem?_getD, h]; rfl
def rMinD (X : Cx) : List V → Hp → VK → Prop := fun vs H Q => ∃ (a : Addr) (xs : List V) (d : PyData) (ds : List PyData), vs = [V.ref a] ∧ SqL X.K H a xs ∧ DpAll X.K H xs (d :: ds) ∧ AlikeAll (d :: ds) ∧ PyData.depthAll (d :: ds) ≤ 50 ∧ ∀ (i : Nat) v, xs[i]? = some v → (d :: ds).getD i .none = minD d ds → Q v H
theorem cr_minD {X : Cx} {k : Nat} (hc : X.calm = true) (hr : Room k X.A) : CallR X (.builtin "min") (rMinD X) := by
  intro pins s σ H vs us Q I r h
  obtain ⟨a, xs, d, ds, rfl, hs, hd, hal, hdep, q⟩ := h
  obtain ⟨its, rv, hl, _⟩ := I.list hs
  rw [Vals.ref1 r]
  obtain ⟨as, ra⟩ := Dp.readsAll I _ _ _ hd rv
  refine min_data (I.ok.hd hc) hl.isList (by simpa using ra) hal (by have := hr.un; omega) fun i v h' tk hi e hk => ?_
  have hi' : its[i]? = some v := by simpa using hi
  have hlen := rv.length
  have hlt : i < xs.length := by rw [hlen]; exact (List.getElem?_eq_some_iff.mp hi').1
  have hx : xs[i]? = some xs[i] := List.getElem?_eq_getElem hlt
  obtain ⟨u, hu, ru⟩ := rv.get hx
  rw [hi'] at hu
  cases hu
  exact ⟨_, H, I.kept hk, ru, q i _ hx e⟩
section
variable {X : Cx} {e a b o i : Expr} {pos : Pos} {B : Bs} {ρ ρ' : List Sl} {s s1 s2 : Sl} {d : PyData} {ds es : List PyData} {p : Pos}
theorem dminD {n : Nat} {d0 : PyData} {s0 : Sl} (hr : Room n X.A) (hc : X.calm = true) (hm : X.mg "min" = none) (h : PE X e (tV X.w B ρ s0)) (hs0 : s0 = .ol (d :: ds) ∨ s0 = .pu (.list (d :: ds)) := by first | exact Or.inl rfl | exact Or.inr rfl) (hal : AlikeAll (d :: ds)) (hdep : PyData.depthAll (d :: ds) ≤ 50) (hn : nX.nXs (d :: ds) = true) (hmin : minD d ds = d0)
    (hg : Gl X "min" := by rfl) (he : starEach (e :: []) X.env = (false, eval e X.env) :: starEach [] X.env := by rfl) (hpl : (backTo pos (starEach [] X.env)).any (·.1) = false := by rfl) :
    PE X (.Call (.Name "min" p) [e] [] pos) (tV X.w B ρ (.pu d0)) := by
  have hdc : DCall X.w (rMinD X) [s0] (.pu d0) := fun vs F H Q f o k => by
    obtain ⟨v, ev, ov⟩ := o.one
    subst ev
    have fin : ∀ (q : Addr) (xs : List V), v = .ref q → SqL X.K H q xs → RpAll F xs (d :: ds) → rMinD X [v] H Q := fun q xs ex hq r =>
      ⟨q, xs, d, ds, by rw [ex], hq, RpAll.dp X.K _ _ hn (RpAll.mono f _ _ r), hal, hdep, fun i u hi e => by
        obtain ⟨d', h1, h2⟩ := r.get hi
        rw [getD_of h1] at e
        rw [e, hmin] at h2
        exact k u F H (Gr.refl f) h2 npu⟩
    rcases hs0 with rfl | rfl
    · obtain ⟨q, xs, ex, _, hq, r⟩ := ov
      exact fin q xs ex (SqL.of hq) r
    · obtain ⟨q, xs, ex, hq, r⟩ := Rp.list_inv ov
      exact fin q xs ex (SqL.of (f _ _ hq)) r
  exact dV (dblt (cr_minD hc hr) hm boot_min' (acons h anil he) hdc hg (by decide) (by decide) he hpl)
end
end GY
namespace GY
open PySem PySem.Spec PyProof.Rows L2

/-! ## sets of ints -/
def memS (l : List Int) : Int → Bool := fun k => decide (k ∈ l)
def cntS (l : List Int) : Nat := l.foldl (fun (t : List Int) x => if x ∈ t then t else t ++ [x]) [] |>.length
def dedS (l : List Int) : List Int := l.foldl (fun (t : List Int) x => if x ∈ t then t else t ++ [x]) []
theorem dedS_snoc (l : List Int) (x : Int) : dedS (l ++ [x]) = if x ∈ dedS l then dedS l else dedS l ++ [x] := by
  unfold dedS
  rw [List.foldl_append]
  rfl
theorem dedS_foldl (l : List Int) : ∀ (t : List Int) (x : Int), x ∈ l.foldl (fun (t : List Int) x => if x ∈ t then t else t ++ [x]) t ↔ x ∈ t ∨ x ∈ l := by
  induction l with
  | nil => intro t x; simp
  | cons y l ih =>
    intro t x
    rw [List.foldl_cons, ih]
    by_cases h : y ∈ t
    · rw [if_pos h, List.mem_cons]
      constructor
      · rintro (z | z)
        · exact .inl z
        · exact .inr (.inr z)
      · rintro (z | z | z)
        · exact .inl z
        · exact .inl (z ▸ h)
        · exact .inr z
    · rw [if_neg h, List.mem_append, List.mem_singleton, List.mem_cons, or_assoc]
theorem mem_dedS {l : List Int} {x : Int} : x ∈ dedS l ↔ x ∈ l := by
  unfold dedS
  rw [dedS_foldl]
  simp
theorem memS_snoc (l : List Int) (x : Int) : memS (l ++ [x]) = fun j => memS l j || decide (j = x) := by
  funext j
  unfold memS
  by_cases h1 : j ∈ l <;> by_cases h2 : j = x <;> simp [h1, h2]
theorem cntS_snoc (l : List Int) (x : Int) : cntS (l ++ [x]) = if memS l x = true then cntS l else cntS l + 1 := by
  show (dedS (l ++ [x])).length = if memS l x = true then (dedS l).length else (dedS l).length + 1
  rw [dedS_snoc]
  by_cases h : x ∈ l
  · rw [if_pos (mem_dedS.mpr h), if_pos (by simp [memS, h])]
  · rw [if_neg (fun z => h (mem_dedS.mp z)), if_neg (by simp [memS, h]), List.length_append, List.length_singleton]
theorem cntS_le (l : List Int) : cntS l ≤ l.length := by
  have go : ∀ (l t : List Int), (l.foldl (fun (t : List Int) x => if x ∈ t then t else t ++ [x]) t).length ≤ t.length + l.length := by
    intro l
    induction l with
    | nil => intro t; simp
    | cons x l ih =>
      intro t
      rw [List.foldl_cons, List.length_cons]
      refine Nat.le_trans (ih _) ?_
      split
      · omega
      · rw [List.length_append, List.length_singleton]; omega
  have := go l []
  rw [List.length_nil, Nat.zero_add] at this
  exact this
section
variable {X : Cx} {pins : List (Addr × Obj)} {σ : L2.St} {H : Hp} {s : Shared}
theorem add_ok {E : Value → Shared → Prop} {D : Addr} {S : Int → Bool} {n : Nat} {y : Int} {u : Value} {Q : Value → Shared → Prop} (I : Inv X pins σ H s) (hD : H D = some (SetO X.w D S n)) (ru : RelV (.int y) u) (room : n + 1 < scanBound)
    (h : ∀ s', Inv X pins σ (upd H D (SetO X.w D (fun j => S j || decide (j = y)) (if S y = true then n else n + 1))) s' → Q .none s') : wpAny (model X.prog X.w) X.A (call (.builtin "set.add") [.ref D, u]) Q E s := by
  obtain ⟨tk, rfl⟩ := ru
  refine setR_add (setO_get I hD) room fun h' sb new => ?_
  have he : ∃ u, h'.get? D = some u := by
    have ⟨o, _, _, _, ho, _⟩ := new
    exact ⟨o, ho⟩
  exact h _ (I.write (e := D) (t' := s.toks + 1) (by rw [hD]; trivial) (.inl rfl) (fun b u hb hu => (sb.2 b hb).trans hu) he (setO_new new))
end
section
variable {X : Cx} {e a b o i : Expr} {pos pos2 : Pos} {B : Bs} {ρ ρ' : List Sl} {s s1 s2 : Sl} {d : PyData} {ds es : List PyData} {p : Pos}
/-- {elt for target in iter if ..}, elt an int -/
theorem dsc {α : Type} (emb : α → PyData) {xs : List α} {f : α → Bool} {h : α → Int} {ρb : α → List Sl} {js : List Nat} {elt tg iter : Expr} {ifs : List Expr} {scope : Scope} {own : List (Str × Nat)} {g : TG}
    (hi : PI X tg iter (tI X.w B ρ (xs.map emb))) (hc : X.calm = true) (hN : X.N.Nodup) (ok : BlkOk X.N X.env.scope scope own)
    (hg : ∀ (s : Shared) (H : Hp) (C : Addr) (cl : List (Str × Addr)) (fp : List Addr), PG (X.blk s H scope (compEnvC scope cl C X.env) fp) tg g) (hjs : ∀ j ∈ js, j ∈ own.map (·.2))
    (hb : ∀ x ∈ xs, Bd X.w B g (emb x) (wipeR ρ (own.map (·.2))) (ρb x) js)
    (ht : ∀ (s : Shared) (H : Hp) (C : Addr) (cl : List (Str × Addr)) (fp : List Addr), ∀ x ∈ xs, PTs (X.blk s H scope (compEnvC scope cl C X.env) fp) ifs (tT X.w B (ρb x) (f x)))
    (he : ∀ (s : Shared) (H : Hp) (C : Addr) (cl : List (Str × Addr)) (fp : List Addr), ∀ x ∈ xs, f x = true → PE (X.blk s H scope (compEnvC scope cl C X.env) fp) elt (tV X.w B (ρb x) (.pu (.int (h x)))))
    (hl : xs.length ≤ 100) (hs : ∀ x, foldedSetIterable iter X.env x = pure x := by intro _; rfl) :
    PE X (.SetComp elt [⟨tg, iter, ifs, 0⟩] scope pos) (tV X.w B ρ (.ss (memS ((xs.filter f).map h)) (cntS ((xs.filter f).map h)))) := by
  refine ⟨fun pins s σ H Q I ⟨F, a, k⟩ => ?_⟩
  rw [PpSet.eval_SetComp]
  have hfree : ∀ y ∈ scope.names, y.2 = .free → ∃ c, X.env.cells.lookup y.1 = some c := fun y hy e => (ok.free y hy e).elim (fun k => I.ok.has _ (.inl k)) fun k => I.ok.has _ (.inr k)
  refine wpAny_comprehension_free (use := none) rfl hs (closure_ok hfree) ok.kind (fun y hy e => by rw [ok.uniq y hy, e])
    (thn (hi.run pins s σ H (fun J H' => ∃ F', Gr F H F' H' ∧ Yld F' J (xs.map emb)) I ⟨F, a, fun J F' H' g y => ⟨F', g, y⟩⟩) fun xv s1 hx => thn hx fun itv s2 h2 => ?_)
  obtain ⟨it, fp, tn, J, H2, e, I2, T, st2, f2, F2, g2, yl⟩ := h2
  subst e
  have a2 := a.grow g2
  refine PpSet.newSet_ok (newEnv_comp ?_)
  generalize hD : s2.heap.objs.size = D
  have hDn : H2 D = none := I2.hok.fresh (Nat.le_of_eq hD)
  have fDn : F2 D = none := g2.fh.free hDn
  generalize hs3 : ({ s2 with heap := s2.heap.push { cls := .type "set", dict := none, data := .set #[] 0 (.fresh 0 0 (!X.w.params.followText "set-order")) } } : Shared) = s3
  have I3 : Inv X pins σ (upd H2 D (SetO X.w D (memS []) (cntS []))) s3 := by
    rw [← hs3]
    refine I2.laid (t' := s2.toks) (fun b o e => Heap.get?_push_of_some _ e) (Nat.le_of_eq hD) ?_
    rw [← hD]
    exact setO_new (setR_fresh X.w)
  have h3 : s3.heap = s2.heap.push { cls := .type "set", dict := none, data := .set #[] 0 (.fresh 0 0 (!X.w.params.followText "set-order")) } := by rw [← hs3]
  have sz : ∀ b ∈ fp, b < s2.heap.objs.size := fun b hb => by
    obtain ⟨o, e, _⟩ := T.obj _ _ st2 b hb
    exact Heap.lt_size e
  generalize hH3 : upd H2 D (SetO X.w D (memS []) (cntS [])) = H3 at I3
  have g3 : Gr F2 H2 F2 H3 := by rw [← hH3]; exact Gr.raw g2.fh hDn
  have d3 : H3 D = some (SetO X.w D (memS []) (cntS [])) := by rw [← hH3, upd_same]
  have f3 : ∀ b ∈ fp, FpOk X pins H3 b ∧ b < s3.heap.objs.size := fun b hb => by
    have hlt := sz b hb
    refine ⟨⟨?_, (f2 b hb).2⟩, by rw [h3, Heap.size_push]; exact Nat.lt_succ_of_lt hlt⟩
    rw [← hH3, upd_ne (by rw [← hD]; exact Nat.ne_of_lt hlt)]
    exact (f2 b hb).1
  have st3 : tn 0 s3.heap := T.keep _ _ _ st2 fun b _ o e => by rw [h3]; exact Heap.get?_push_of_some _ e
  have I4 := block_start I3 ok hN f3
  generalize hcl : cellsFrom (s3.heap.objs.size + 1) scope.names (cloFrom X.env.cells scope.names []) = cl at I4
  have pg := hg s3 H3 s3.heap.objs.size cl fp
  have pt := ht s3 H3 s3.heap.objs.size cl fp
  have pe := he s3 H3 s3.heap.objs.size cl fp
  show codeAny _ _ (.compStart (.SetComp elt [⟨tg, iter, ifs, 0⟩] scope pos) 0 (.ref it) (.ref D) (compEnvC scope cl s3.heap.objs.size X.env)) (compPost (model X.prog X.w) X.A X.xe none (EP X pins σ Q) (.ref D) s3.heap.objs.size) { s3 with heap := pushCells (s3.heap.push { cls := .type "dict", data := .dict #[] }) scope.names }
  have nfp : ∀ b ∈ fp, H3 b = none := fun b hb => (f3 b hb).1.1
  generalize hce : compEnvC scope cl s3.heap.objs.size X.env = ce at I4 pg pt pe ⊢
  have cL : ce.locals = s3.heap.objs.size := by subst hce; rfl
  generalize hs4 : ({ s3 with heap := pushCells (s3.heap.push { cls := .type "dict", data := .dict #[] }) scope.names } : Shared) = s4 at I4 ⊢
  have st4 : tn 0 s4.heap := T.keep _ _ _ st3 fun b _ o e => by rw [← hs4]; exact pushCells_keeps _ _ _ _ (Heap.get?_push_of_some _ e)
  have stat : ∀ {σ' : L2.St} {H' : Hp} {s' : Shared}, Inv (X.blk s3 H3 scope ce fp) [] σ' H' s' → (∀ b ∈ fp, H' b = none) → ∀ b ∈ fp, FpOk (X.blk s3 H3 scope ce fp) [] H' b := fun {σ' H' s'} I' hn b hb =>
    ⟨hn b hb, (I'.ok.exf b hb).1, I'.ok.exfs b hb, .inl hb, fun x c e => (I'.ok.exf b hb).2 x c e, fun p hp => absurd (show p ∈ ([] : List (Addr × Obj)) ++ [] from hp) (by simp)⟩
  have loop : codeAny (model X.prog X.w) X.A (.compLoop (.SetComp elt [⟨tg, iter, ifs, 0⟩] scope pos) 0 (.ref it) (.ref D) ce) (compPost (model X.prog X.w) X.A X.xe none (EP X pins σ Q) (.ref D) s3.heap.objs.size) s4 := by
    refine PpSet.compLoopS_any (fun n s' => ∃ i F' H', n = xs.length - i ∧ i ≤ xs.length ∧ Inv (X.blk s3 H3 scope ce fp) [] (wipe σ (own.map (·.2))) H' s' ∧ tn i s'.heap ∧ (∀ b ∈ fp, H' b = none) ∧ Gr F2 H2 F' H' ∧ F' D = none ∧ H' D = some (SetO X.w D (memS (((xs.take i).filter f).map h)) (cntS (((xs.take i).filter f).map h)))) ?_ xs.length ⟨0, F2, H3, rfl, Nat.zero_le _, I4, st4, nfp, g3, fDn, d3⟩
    rintro n s5 ⟨i, F5, H5, rfl, hile, I5, st5, n5, g5, fD5, d5⟩
    by_cases hlt : i < xs.length
    · have hix : xs[i]? = some xs[i] := List.getElem?_eq_getElem hlt
      have hm : xs[i] ∈ xs := List.getElem_mem hlt
      have hd : (xs.map emb)[i]? = some (emb xs[i]) := by rw [List.getElem?_map, hix]; rfl
      have tk : xs.take (i + 1) = xs.take i ++ [xs[i]] := by rw [List.take_add_one, hix]; rfl
      have ti := T.item (X.blk s3 H3 scope ce fp) rfl rfl rfl hc i [] s5 _ H5 (fun _ _ => False) I5 (stat I5 n5) st5 (yl.go i F5 H5 g5.f g5.fh (by simpa using hlt))
      refine thnF ti fun r s6 ⟨u, hr, h6⟩ => ?_
      subst hr
      refine thnF h6 fun _ s7 ⟨x, H7, I7, r7, y7, st7, n7⟩ => ?_
      obtain ⟨F7, g7, o7⟩ := yl.yld i F5 H5 x H7 _ g5.f g5.fh hd y7
      have I7' := I7.pinned (stat I7 n7) (T.obj _ _ st7)
      have a7 : AS X.w B (wipeR ρ (own.map (·.2))) F7 (wipe σ (own.map (·.2))) H7 := ((a2.grow g5).grow g7).wipe _
      refine thnF (pg.run _ s7 _ H7 x u (fun σ' H' => ∃ σ8, σ' = σ8 ∧ H' = H7 ∧ AS X.w B (ρb xs[i]) F7 σ8 H7 ∧ wipe σ8 (own.map (·.2)) = wipe σ (own.map (·.2))) I7' r7 (hb xs[i] hm x F7 H7 _ _ a7 o7 fun σ' a' hw => ⟨σ', rfl, rfl, a', by rw [hw _ hjs, wipe_wipe]⟩)) fun _ s8 ⟨σ8, H8, I8, σ8', e8, eH8, a8, hw8⟩ => ?_
      subst e8 eH8
      refine thnF ((pt xs[i] hm).run _ s8 σ8 _ (fun b H9 => b = f xs[i] ∧ ∃ F9, Gr F7 H8 F9 H9) I8 ⟨F7, a8, fun F' H' g => ⟨rfl, F', g⟩⟩) fun b s9 ⟨H9, I9, eb, F9, g9⟩ => ?_
      subst eb
      have nD9 : F9 D = none := (g7.trans g9).nw D fD5 ⟨_, d5, fun _ z => by first | cases z | (unfold SetO at z; cases z)⟩
      have d9 : H9 D = some (SetO X.w D (memS (((xs.take i).filter f).map h)) (cntS (((xs.take i).filter f).map h))) := (g7.trans g9).h D _ d5
      -- the turn's end
      have fin : ∀ {s' : Shared} {F' H' : Hp}, Inv (X.blk s3 H3 scope ce fp) ([] ++ pinsAt fp s7.heap) σ8 H' s' → Gr F2 H2 F' H' → F' D = none → H' D = some (SetO X.w D (memS (((xs.take (i + 1)).filter f).map h)) (cntS (((xs.take (i + 1)).filter f).map h))) →
          ∃ m, m < xs.length - i ∧ ∃ i F' H', m = xs.length - i ∧ i ≤ xs.length ∧ Inv (X.blk s3 H3 scope ce fp) [] (wipe σ (own.map (·.2))) H' s' ∧ tn i s'.heap ∧ (∀ b ∈ fp, H' b = none) ∧ Gr F2 H2 F' H' ∧ F' D = none ∧ H' D = some (SetO X.w D (memS (((xs.take i).filter f).map h)) (cntS (((xs.take i).filter f).map h))) := fun {s' F' H'} I' gg fD' d' => by
        have pin' : ∀ b ∈ fp, ∀ o, s7.heap.get? b = some o → s'.heap.get? b = some o ∧ H' b = none := fun b hb o e =>
          let z := I'.pin (b, o) (List.mem_append_right _ (List.mem_append_right _ (mem_pinsAt hb e)))
          ⟨z.1, z.2.1⟩
        have hl : (wipe σ (own.map (·.2))).length = σ8.length := by rw [← hw8, wipe_length]
        refine ⟨xs.length - (i + 1), by omega, i + 1, F', H', rfl, hlt, (I'.unpinned (pins := [])).weak hl (fun j v e => ?_), T.keep _ _ _ st7 fun b hb o e => (pin' b hb o e).1, fun b hb => ?_, gg, fD', d'⟩
        · rw [← hw8] at e
          exact (wipe_some e).1
        · obtain ⟨o, e, _⟩ := T.obj _ _ st7 b hb
          exact (pin' b hb o e).2
      cases hf : f xs[i] with
      | false =>
        simp only [Bool.false_eq_true, if_false]
        refine fin I9 (g5.trans (g7.trans g9)) nD9 ?_
        rw [tk, List.filter_append, List.filter_cons, hf, if_neg Bool.false_ne_true, List.filter_nil, List.append_nil]
        exact d9
      | true =>
        simp only [if_true]
        refine thnF ((pe xs[i] hm hf).run _ s9 σ8 H9 (fun y H10 => y = .int (h xs[i]) ∧ ∃ F10, Gr F9 H9 F10 H10) I9 ⟨F9, a8.grow g9, fun v F' H' g o => ⟨Rp.int_inv o, F', g⟩⟩) fun z s10 ⟨yv, H10, I10, r10, ey, F10, g10⟩ => ?_
        subst ey
        have nD10 : F10 D = none := g10.nw D nD9 ⟨_, d9, fun _ z => by first | cases z | (unfold SetO at z; cases z)⟩
        have d10 := g10.h D _ d9
        have gg := g5.trans (g7.trans (g9.trans g10))
        refine add_ok (X := X.blk s3 H3 scope ce fp) I10 d10 r10 ?_ fun s11 I11 => fin I11 (gg.mut hDn nD10) nD10 ?_
        · have l1 := cntS_le (((xs.take i).filter f).map h)
          have l2 := List.length_filter_le f (xs.take i)
          rw [List.length_map] at l1
          rw [List.length_take] at l2
          have : cntS (((xs.take i).filter f).map h) + 1 ≤ 101 := by omega
          exact Nat.lt_of_le_of_lt this (by decide)
        · rw [upd_same, tk, List.filter_append, List.filter_cons, hf, if_pos rfl, List.filter_nil, List.map_append, List.map_cons, List.map_nil, memS_snoc, cntS_snoc]
    · have ei : i = xs.length := by omega
      subst ei
      have td := T.done (X.blk s3 H3 scope ce fp) rfl rfl rfl hc xs.length [] s5 _ H5 (fun _ _ => False) I5 (stat I5 n5) st5 (by have := yl.stop F5 H5 g5.f g5.fh; simpa using this)
      refine thnF td fun r s6 ⟨hr, I6⟩ => ?_
      subst hr
      have I7 : Inv X pins σ H5 s6 := I3.call' (ch := fp) I6.os I6.base I6.hok I6.bare fun b hb => ⟨(f3 b hb).1.2.2.2.1, (f3 b hb).1.2.1, (f3 b hb).1.2.2.2.2.1, (f3 b hb).1.2.2.2.2.2⟩
      have nC : H5 s3.heap.objs.size = none := by
        have z : H5 ce.locals = none := I6.free
        rw [cL] at z
        exact z
      obtain ⟨m, hn, _⟩ := I6.loc
      have hn : s6.heap.Ns ce.locals m := hn
      rw [cL] at hn
      refine ⟨m, hn, fun h'' sb => ?_⟩
      obtain ⟨f0, f1, f2', f3', f4, f5⟩ := I3.fpOk (Nat.le_refl _) nC
      rw [List.take_length] at d5
      have gz : Gr F H (upd F5 D (SetO X.w D (memS ((xs.filter f).map h)) (cntS ((xs.filter f).map h)))) H5 := (g2.trans g5).freeze (g2.h.free hDn) fD5 d5
      exact ⟨.ref D, H5, I7.turned (t' := s6.toks) (fun b o hb e => (sb.2 b hb).trans e) f0 f1 f3' f4 f5, rfl, k _ _ H5 gz ⟨D, rfl, upd_same⟩⟩
  exact PpSet.codeAny_compStart_set loop (T.self X.A 0 _ _ _ st4 loop)
end
end GY
namespace GY
open PySem PySem.Spec PyProof.Rows L2

/-! ## sorted(d.items()) -/
def isT : Option HO → Bool
  | some (.tup _) => true
  | _ => false
theorem isT_of {x : Option HO} (h : isT x = true) : ∃ xs, x = some (.tup xs) := by
  unfold isT at h
  split at h
  · exact ⟨_, rfl⟩
  · cases h
theorem coll_items {X : Cx} {F H : Hp} {p a : Addr} {ws : List (List Key × V)} {kvs : List (List Int × PyData)} (hcm : X.calm = true) (f : Same F H) (hp : H p = some (DX.itemsO p a)) (ha : H a = some (.dT ws)) (r : DictRep F ws kvs) (hl : kvs.length ≤ 1000) : CollD X F H (.ref p) (kvs.map dKV) := by
  intro pins s σ u Q E I ru q
  obtain rfl : u = Value.ref p := ru
  have view : s.heap.IsItemsView p a := (show ObjOk X.prog X.w H s.heap p (DX.itemsO p a) from I.hok p _ hp).1
  obtain ⟨z, hd, xs', rel, o, es, ep, ho, hx, hdat, hes, his, hn⟩ := dt_of I.hok ha
  have l1 : ws.length = xs'.length := Paired.length rel
  have l0 : ws.length = kvs.length := dict_len r
  have l2 : es.size = xs'.length := size_of_entries hes
  refine DT.collectI (es := es) (ep := ep) (I.ok.hd hcm) view ⟨o, ho, hx, hdat⟩ (by rw [l2, ← l1, l0]; exact Nat.le_of_lt (small1000 hl)) fun h' tk as hk hlt hlen hG => ?_
  have lak : as.length = kvs.length := by omega
  have nd : as.Nodup := List.Pairwise.imp (fun h => Nat.ne_of_lt h) hG.rise
  have I1 : Inv X pins σ H { s with heap := h', toks := tk } := I.kept hk
  have fre : ∀ c ∈ as, s.heap.objs.size ≤ c := fun c hc => Nat.le_of_lt (hG.above c hc)
  obtain ⟨H2, I2, hsame, hP⟩ := DX.takeT (h' := h') (tk := tk) (P := fun c vs => ∀ j, as[j]? = some c → ∃ (kv : List Int × PyData) (b : Addr) (y : V), kvs[j]? = some kv ∧ vs = [V.ref b, y] ∧ H b = some (.tup ((kv.1.map (Sum.inl : Int → Key)).map kV)) ∧ Rp F y kv.2) I as H I1 nd (fun c hc => by
    refine ⟨fre c hc, I.hok.fresh (fre c hc), ?_⟩
    obtain ⟨j, hj⟩ := List.mem_iff_getElem?.mp hc
    obtain ⟨en, he, hg⟩ := hG.pairs j c hj
    rw [entry_at hes j] at he
    cases hxj : xs'[j]? with
    | none => rw [hxj] at he; cases he
    | some x =>
      rw [hxj] at he
      have een : entryOfKey (tupleKind (mixKind X.prog X.w)) x = en := Option.some.inj he
      obtain ⟨e0, he0, r1, r2, r3⟩ := DX.pget rel hxj
      have hjl : j < kvs.length := by rw [← l0]; exact (List.getElem?_eq_some_iff.mp he0).1
      have hkv : kvs[j]? = some kvs[j] := List.getElem?_eq_getElem hjl
      obtain ⟨e1, he1, q1, q2⟩ := DX.pget r hkv
      rw [he0] at he1
      cases he1
      refine ⟨[.ref x.2.1, e0.2], fun j' hj' => ?_, fun H2 => ?_⟩
      · have ej : j' = j := by
          have hl1 := (List.getElem?_eq_some_iff.mp hj').1
          have hl2 := (List.getElem?_eq_some_iff.mp hj).1
          exact (List.getElem_inj nd).mp (((List.getElem?_eq_some_iff.mp hj').2).trans ((List.getElem?_eq_some_iff.mp hj).2).symm)
        subst ej
        exact ⟨kvs[j'], x.2.1, e0.2, hkv, rfl, by rw [← q1]; exact r2, q2⟩
      · exact ⟨by show 2 ≤ sizeLine; decide, [.ref x.2.1, x.2.2], .cons rfl (.cons r3 .nil), ⟨_, by rw [hg, ← een], rfl, _, rfl⟩⟩)
  -- the frozen heap
  let F2 : Hp := fun b => if b ∈ as then H2 b else if isT (H b) = true then H b else F b
  have hF : ∀ b o, F b = some o → F2 b = some o := fun b o e => by
    show (if b ∈ as then H2 b else if isT (H b) = true then H b else F b) = some o
    have hb : b ∉ as := fun hb => by have := I.hok.fresh (fre b hb); rw [f b o e] at this; cases this
    rw [if_neg hb]
    by_cases ht : isT (H b) = true
    · rw [if_pos ht]; exact f b o e
    · rw [if_neg ht]; exact e
  have g : Gr F H F2 H2 := by
    refine ⟨hF, hsame, fun b o e => ?_, fun b e ⟨o, eo, t⟩ => ?_⟩
    · have e : (if b ∈ as then H2 b else if isT (H b) = true then H b else F b) = some o := e
      by_cases hb : b ∈ as
      · rw [if_pos hb] at e; exact e
      · rw [if_neg hb] at e
        by_cases ht : isT (H b) = true
        · rw [if_pos ht] at e; exact hsame b o e
        · rw [if_neg ht] at e; exact hsame b o (f b o e)
    · show (if b ∈ as then H2 b else if isT (H b) = true then H b else F b) = none
      have hb : b ∉ as := fun hb => by have := I.hok.fresh (fre b hb); rw [eo] at this; cases this
      rw [if_neg hb, if_neg (fun ht => by obtain ⟨xs, ht⟩ := isT_of ht; rw [eo] at ht; cases ht; exact t xs rfl)]
      exact e
  refine q (as.map Value.ref) _ F2 H2 (as.map V.ref) I2 g ?_ ?_
  · have : ∀ l : List Addr, Vals (l.map V.ref) (l.map Value.ref) := fun l => by
      induction l with
      | nil => exact .nil
      | cons x l ih => exact .cons rfl ih
    exact this as
  · have go : ∀ (l : List Addr) (ks : List (List Int × PyData)) (off : Nat), l.length = ks.length → (∀ j c, l[j]? = some c → as[off + j]? = some c) → (∀ j kv, ks[j]? = some kv → kvs[off + j]? = some kv) → RpAll F2 (l.map V.ref) (ks.map dKV) := by
      intro l
      induction l with
      | nil =>
        intro ks off h _ _
        cases ks with
        | nil => exact .nil
        | cons _ _ => simp at h
      | cons c l ih =>
        intro ks off h hc hk'
        cases ks with
        | nil => simp at h
        | cons kv ks =>
          have h0 := hc 0 c rfl
          have k0 := hk' 0 kv rfl
          rw [Nat.add_zero] at h0 k0
          have hm : c ∈ as := List.mem_of_getElem? h0
          obtain ⟨vs, hvs, hH2⟩ := hP c hm
          obtain ⟨kv', b, y, e1, e2, e3, e4⟩ := hvs off h0
          rw [k0] at e1
          cases e1
          subst e2
          refine .cons (Rp.tup (xs := [V.ref b, y]) ?_ (.cons (key_rp ?_) (.cons (Rp.mono hF _ _ e4) .nil))) (ih ks (off + 1) (by simpa using h) (fun j c' hj => ?_) fun j kv' hj => ?_)
          · show (if c ∈ as then H2 c else _) = _
            rw [if_pos hm, hH2]
          · show (if b ∈ as then H2 b else if isT (H b) = true then H b else F b) = _
            have hb : b ∉ as := fun hb => by have := I.hok.fresh (fre b hb); rw [e3] at this; cases this
            rw [if_neg hb, if_pos (by rw [e3]; rfl)]
            exact e3
          · have := hc (j + 1) c' (by simpa using hj)
            rw [show off + 1 + j = off + (j + 1) by omega]
            exact this
          · have := hk' (j + 1) kv' (by simpa using hj)
            rw [show off + 1 + j = off + (j + 1) by omega]
            exact this
    exact go as kvs 0 lak (fun j c h => by rw [Nat.zero_add]; exact h) fun j c h => by rw [Nat.zero_add]; exact h
section
variable {X : Cx} {e a b o i : Expr} {pos pos2 : Pos} {B : Bs} {ρ ρ' : List Sl} {s s1 s2 : Sl} {d : PyData} {ds es : List PyData} {p : Pos} {kvs : List (List Int × PyData)} {apos cpos : Pos}
theorem dsortItems {n : Nat} (hr : Room n X.A) (hc : X.calm = true) (hm : X.mg "sorted" = none) (ho : PE X o (tV X.w B ρ (.od kvs))) (g : SortOk (kvs.map dKV) es) (hl : kvs.length ≤ 1000)
    (hbase : attributeBase o "items" X.env (eval o X.env) = eval o X.env := by rfl) (hline : (apos.endLine == cpos.line) = true := by rfl)
    (hg : Gl X "sorted" := by rfl) (he : starEach (.Call (.Attribute o "items" apos) [] [] cpos :: []) X.env = (false, eval (.Call (.Attribute o "items" apos) [] [] cpos) X.env) :: starEach [] X.env := by rfl) (hpl : (backTo pos (starEach [] X.env)).any (·.1) = false := by rfl) :
    PE X (.Call (.Name "sorted" p) [.Call (.Attribute o "items" apos) [] [] cpos] [] pos) (tN X.w B ρ (.ol es)) :=
  weakE (pe_callB (cr_sortD hr) hg hm boot_sorted' (pa_cons (pe_bm0 PySem.F.plainAttrs_dict PySem.F.slot_dict_items PySem.F.type_dict_items DX.mt_itemsT ho hbase hline) pa_nil he) (by decide) (by decide) he hpl) fun σ H Q ⟨F, a, k⟩ => by
    refine ⟨F, a, fun v F1 H1 g1 ⟨q, ws, ev, fq, hq, r⟩ => ?_⟩
    subst ev
    refine ⟨.inr (.inr (.inl ⟨rfl, .inr ⟨ws, hq⟩⟩)), q, ws, rfl, rfl, hq, fun t ht => ?_⟩
    have gt := Gr.raw (o := DX.itemsO t q) g1.fh ht
    refine ⟨.ref t, F1, kvs.map dKV, es, rfl, coll_items hc (g1.fh.trans gt.h) upd_same (gt.h _ _ hq) r hl, g, fun v F2 H2 g2 o2 n2 => k v F2 H2 (g1.trans (gt.trans g2)) o2 fun c oc ec => ?_⟩
    have h1 := n2 c oc ec
    exact g1.h.free (gt.h.free h1)
end
end GY
namespace GY
open PySem PySem.Spec PyProof.Rows L2

/-! ## sorted(set(pairs of ints)) -/
theorem code_eq : ∀ {es l : List (List Int)}, es.Perm l → es.Pairwise (fun a b => TS.code 64 a < TS.code 64 b) → l.Pairwise (fun a b => TS.code 64 a ≤ TS.code 64 b) → l = es
  | [], l, p, _, _ => p.symm.eq_nil
  | e :: es, [], p, _, _ => absurd p.length_eq (by simp)
  | e :: es, x :: l, p, h1, h2 => by
    have ex : x = e := by
      have hx : x ∈ e :: es := p.mem_iff.mpr List.mem_cons_self
      rcases List.mem_cons.mp hx with z | z
      · exact z
      · have he : e ∈ x :: l := p.mem_iff.mp List.mem_cons_self
        rcases List.mem_cons.mp he with y | y
        · exact y.symm
        · have t1 := (List.pairwise_cons.mp h1).1 x z
          have t2 := (List.pairwise_cons.mp h2).1 e y
          omega
    subst ex
    rw [code_eq ((List.perm_cons _).mp p) (List.pairwise_cons.mp h1).2 (List.pairwise_cons.mp h2).2]
theorem tup_addrs {F : Hp} : ∀ {xs : List V} {ks : List (List Int)}, RpAll F xs (ks.map dI) → ∃ ps : List (Addr × List Int), xs = ps.map (fun p => V.ref p.1) ∧ ps.map (·.2) = ks ∧ ∀ p ∈ ps, Rp F (.ref p.1) (dI p.2)
  | _, [], .nil => ⟨[], rfl, rfl, fun _ h => nomatch h⟩
  | _, k :: ks, .cons r t => by
    obtain ⟨ps, h1, h2, h3⟩ := tup_addrs t
    obtain ⟨a, ys, ea, _, _⟩ := Rp.tuple_inv r
    subst ea
    refine ⟨(a, k) :: ps, by rw [h1]; rfl, by rw [List.map_cons, h2], fun p hp => ?_⟩
    rcases List.mem_cons.mp hp with z | z
    · rw [z]; exact r
    · exact h3 p z
theorem rp_sqt {K : PySem.W.Frag} {F H : Hp} {a : Addr} {k : List Int} (f : Same F H) (r : Rp F (.ref a) (dI k)) : SqT K H a (k.map V.int) := by
  obtain ⟨b, ys, eb, hb, ry⟩ := Rp.tuple_inv r
  cases eb
  rw [← ry.ints]
  exact sqt_rd (rdm f hb)
section
variable {X : Cx} {e a b o i : Expr} {pos pos2 : Pos} {B : Bs} {ρ ρ' : List Sl} {s s1 s2 : Sl} {d : PyData} {p p2 : Pos}
theorem dsortSet {n : Nat} {ks es : List (List Int)} (hr : Room n X.A) (hc : X.calm = true) (hm : X.mg "sorted" = none) (hm2 : X.mg "set" = none) (h : PE X e (tV X.w B ρ (.ol (ks.map dI)))) (hk : ∀ k ∈ ks, k.length = 2 ∧ TS.Bd 64 k) (hl : ks.length < 64) (hs : es.Pairwise (fun a b => TS.code 64 a < TS.code 64 b)) (hmem : ∀ x, x ∈ es ↔ x ∈ ks)
    (hg : Gl X "sorted" := by rfl) (hg2 : Gl X "set" := by rfl) (he : starEach (.Call (.Name "set" p2) [e] [] pos2 :: []) X.env = (false, eval (.Call (.Name "set" p2) [e] [] pos2) X.env) :: starEach [] X.env := by rfl) (he2 : starEach (e :: []) X.env = (false, eval e X.env) :: starEach [] X.env := by rfl)
    (hpl : (backTo pos (starEach [] X.env)).any (·.1) = false := by rfl) (hpl2 : (backTo pos2 (starEach [] X.env)).any (·.1) = false := by rfl) :
    PE X (.Call (.Name "sorted" p) [.Call (.Name "set" p2) [e] [] pos2] [] pos) (tN X.w B ρ (.ol (es.map dI))) :=
  weakE (pe_callB (cr_sortedT hc) hg hm boot_sorted' (pa_cons (pe_callTy (cr_setOfT hc hr.units) hg2 hm2 boot_set' (pa_cons h pa_nil he2) (by decide) (by decide) he2 hpl2) pa_nil he) (by decide) (by decide) he hpl) fun σ H Q ⟨F, a, k⟩ => by
    refine ⟨F, a, fun v F1 H1 g ⟨q, xs, ev, fq, hq, r⟩ => ?_⟩
    subst ev
    obtain ⟨ps, e1, e2, e3⟩ := tup_addrs r
    subst e1
    refine ⟨q, ps, rfl, SqL.of hq, fun t ht => rp_sqt g.fh (e3 t ht), by have := congrArg List.length e2; rw [List.length_map] at this; omega, fun A L hA hL1 hL2 => ?_⟩
    have hsm : Same H1 (upd H1 A (SetTO X.prog X.w A L)) := same_upd hA
    refine ⟨A, L, 2, 64, rfl, upd_same, fun t ht => rp_sqt (g.fh.trans hsm) (e3 t (hL1 t ht)), by omega, fun t ht => hk t.2 (by rw [← e2]; exact List.mem_map_of_mem (hL1 t ht)), fun L' t pm nd' hfew pw ht => ?_⟩
    have mm : L'.map (·.2) = es := by
      have ndes : es.Nodup := List.Pairwise.imp (fun {a b} h => fun z => by rw [z] at h; omega) hs
      refine code_eq ?_ hs ?_
      · refine (List.perm_ext_iff_of_nodup ndes nd').mpr fun x => ?_
        rw [hmem, ← e2]
        constructor
        · intro hx
          obtain ⟨t, ht, et⟩ := List.mem_map.mp hx
          rw [← et]; exact (pm.map (·.2)).mem_iff.mpr (hL2 t ht)
        · intro hx
          obtain ⟨t, ht, et⟩ := List.mem_map.mp hx
          exact List.mem_map.mpr ⟨t, hL1 t (pm.mem_iff.mp ht), et⟩
      · exact List.pairwise_map.mpr pw
    have g2 : Gr F1 H1 F1 (upd H1 A (SetTO X.prog X.w A L)) := Gr.raw g.fh hA
    have g3 : Gr F1 H1 F1 (upd (upd H1 A (SetTO X.prog X.w A L)) t (.lst (L'.map fun q => V.ref q.1))) := g2.trans (Gr.raw g2.fh ht)
    refine k _ F1 _ (g.trans g3) ⟨t, _, rfl, g2.fh.free ht, upd_same, ?_⟩ (nol (g.h.free (hsm.free ht)))
    rw [← mm]
    have : ∀ l : List (Addr × List Int), (∀ x ∈ l, Rp F1 (.ref x.1) (dI x.2)) → RpAll F1 (l.map fun q => V.ref q.1) ((l.map (·.2)).map dI) := fun l => by
      induction l with
      | nil => intro _; exact .nil
      | cons x l ih => intro hx; exact .cons (hx x List.mem_cons_self) (ih fun y hy => hx y (List.mem_cons_of_mem _ hy))
    exact this L' fun x hx => e3 x (hL1 x (pm.mem_iff.mp hx))
end
end GY
namespace GY
open PySem PySem.Spec PyProof.Rows L2

/-! ## t[::-1] of a short tuple -/
section
variable {prog : Program} {w : World} {A : Around} {E : Value → Shared → Prop} {s : Shared}
theorem applied_rev {sl : Addr} {vs : Value} {n : Nat} {Q : Int × Int × Nat → Shared → Prop} (hs : s.heap.IsSliceOf sl .none .none vs) (ps : IsPart vs (some (-1))) (hn : n = 2 ∨ n = 3 ∨ n = 4)
    (h : Q ((n : Int) - 1, -1, n) s) : wpAny (model prog w) A (Builtin.Slice.sliceApplied (.ref sl) (pure (n : Int))) Q E s := by
  obtain ⟨os, hos, hcs, hds⟩ := id hs
  unfold Builtin.Slice.sliceApplied Builtin.Slice.sliceFields
  refine wpAny_bind (wpAny_bind (wpAny_field hos hds (x := .none) rfl (wpAny_bind (wpAny_field hos hds (x := .none) rfl (wpAny_bind (wpAny_field hos hds (x := vs) rfl (wpAny_pure ?_)))))))
  refine wpAny_bind (HT.slicePart_ ps ?_)
  show wpAny _ _ (if ((-1 : Int) == 0) = true then _ else _) _ _ s
  rw [if_neg (by decide)]
  refine wpAny_bind (HT.slicePart_ .none (wpAny_bind (HT.slicePart_ .none (wpAny_bind (wpAny_pure ?_)))))
  rcases hn with rfl | rfl | rfl
  · exact wpAny_pure h
  · exact wpAny_pure h
  · exact wpAny_pure h
theorem getItem_tuple_rev {t sl : Addr} {items : Array Value} {vs : Value} {Q : Value → Shared → Prop} (ht : IsTup s.heap t items) (hs : s.heap.IsSliceOf sl .none .none vs) (ps : IsPart vs (some (-1))) (hn : items.size = 2 ∨ items.size = 3 ∨ items.size = 4)
    (h : Q (.ref s.heap.objs.size) { s with heap := s.heap.push { cls := .type "tuple", data := .seq items.toList.reverse.toArray } }) : wpAny (model prog w) A (getItem (.ref t) (.ref sl)) Q E s := by
  obtain ⟨os, hos, hcs, hds⟩ := id hs
  have hTs : s.TypeIs (.ref sl) "slice" := ⟨os, hos, hcs⟩
  unfold getItem
  try with_reducible refine wpAny_holding ?_
  first | refine wpAny_bind (wpAny_pure ?_) | skip
  refine wpAny_bind (wpAny_sequenceKey ht.typeIs (by decide) ?_)
  refine wpAny_bind (wpAny_callSpecial?_slot (name := Str.ofString "__getitem__") ht.typeIs PyProof.Rows.slot_tuple_getitem
    (wpAny_call_entry PyProof.Rows.slot_tuple_getitem ht.typeIs PyProof.Rows.entry_tuple_getitem ?_ (PyProof.Rows.args_tuple_getitem _ _)))
  show wpAny _ _ (Builtin.Tuple.tupleItemsOf (.ref t) >>= _) _ _ s
  refine wpAny_bind (PyProof.Rows.tupleItemsOf_ ht ?_)
  refine wpAny_bind (wpAny_typeOf hTs ?_)
  rw [if_pos (by decide)]
  refine wpAny_bind (applied_rev hs ps hn ?_)
  have hno : ¬ ((((items.size : Int) - 1) == 0 && (-1 : Int) == 1 && items.size == items.size) = true) := by
    intro q
    rw [Bool.and_eq_true, Bool.and_eq_true] at q
    exact absurd q.1.2 (by decide)
  show wpAny _ _ (if ((((items.size : Int) - 1) == 0 && (-1 : Int) == 1 && items.size == items.size)) = true then _ else _) _ _ s
  rw [if_neg hno]
  have e : ((List.range items.size).filterMap fun (m : Nat) => items[(((items.size : Int) - 1) + (m : Int) * -1).toNat]?).toArray = items.toList.reverse.toArray := by
    obtain ⟨l⟩ := items
    rcases hn with z | z | z
    · match l, z with
      | [a, b], _ => rfl
    · match l, z with
      | [a, b, c], _ => rfl
    · match l, z with
      | [a, b, c, d], _ => rfl
  rw [e]
  have htake : sizeOk (.seq items.toList.reverse.toArray) := by
    show items.toList.reverse.toArray.size ≤ sizeLine
    rw [List.size_toArray, List.length_reverse, Array.length_toList, sizeLine_eq]
    omega
  first
    | exact wpAny_bind (m := Builtin.Tuple.tupleExact _) (wpAny_newObj_type (wpAny_pure ⟨_, rfl, wpAny_pure h⟩) htake)
    | exact wpAny_bind (m := Builtin.Tuple.tupleExact _) (wpAny_newObj_type (wpAny_bind (wpAny_pure (wpAny_pure ⟨_, rfl, wpAny_pure h⟩))) htake)
    | exact wpAny_bind (wpAny_bind (m := Builtin.Tuple.tupleExact _) (wpAny_newObj_type (wpAny_pure (wpAny_pure ⟨_, rfl, wpAny_pure h⟩)) htake))
    | exact wpAny_bind (wpAny_bind (m := Builtin.Tuple.tupleExact _) (wpAny_newObj_type (wpAny_pure ⟨_, rfl, wpAny_pure h⟩) htake))
end
section
variable {X : Cx} {e a b o i : Expr} {pos pos2 : Pos} {B : Bs} {ρ ρ' : List Sl} {s s1 s2 : Sl} {d : PyData} {ds es : List PyData} {p p2 : Pos}
theorem drevT {k : Nat} {p1 p2 p3 : Pos} (h : PE X e (tV X.w B ρ (.pu (.tuple ds)))) (hn : ds.length = 2 ∨ ds.length = 3 ∨ ds.length = 4) : PE X (.Subscript e (.Slice none none (some (.UnaryOp .USub (.Constant (.int 1) k p1) p2)) p3) pos) (tV X.w B ρ (.pu (.tuple ds.reverse))) := by
  refine ⟨fun pins s σ H Q I ⟨F, a, q⟩ => ?_⟩
  refine Subscript_ (thn (h.run pins s σ H (fun x H1 => ∃ F1, Gr F H F1 H1 ∧ Rp F1 x (.tuple ds)) I ⟨F, a, fun v F1 H1 g o => ⟨F1, g, o⟩⟩) fun v s1 ⟨x, H1, I1, r1, F1, g, o⟩ => ?_)
  obtain ⟨a, xs, ex, hx, rx⟩ := Rp.tuple_inv o
  subst ex
  cases r1
  have hst : PO X (some (.UnaryOp .USub (.Constant (.int 1) k p1) p2)) (tPart (tUn (rU fun i => .int (-i)) (L2.tC (.int 1)))) := po_some (pe_un un_neg pe_int)
  refine wpAny_Slice (thn (po_none.run pins s1 σ H1 (fun o H2 => o = none ∧ H2 = H1) I1 ⟨rfl, rfl⟩) fun vl s2 ⟨l, H2, I2, pl, el, e2⟩ => ?_)
  subst el e2
  refine thn (po_none.run pins s2 σ H2 (fun o H3 => o = none ∧ H3 = H2) I2 ⟨rfl, rfl⟩) fun vu s3 ⟨u, H3, I3, pu, eu, e3⟩ => ?_
  subst eu e3
  refine thn (hst.run pins s3 σ H3 (fun o H4 => o = some (-1) ∧ H4 = H3) I3 ⟨1, rfl, -1, rfl, rfl, rfl⟩) fun vs s4 ⟨o, H4, I4, ps, eo, e4⟩ => ?_
  subst eo e4
  have I5 : Inv X pins σ H4 { s4 with heap := s4.heap.push { cls := .type "slice", data := .fields #[vl, vu, vs] } } := I4.kept (t' := s4.toks) fun b ob q => Heap.get?_push_of_some _ q
  obtain ⟨its, r, ht, hz⟩ := I5.tuple (sqt_rd (K := X.K) (rdm g.fh hx))
  have hlen := r.length
  have hl2 := rx.length
  cases pl
  cases pu
  show wpAny (model X.prog X.w) X.A (subscriptTail e (.Slice none none (some (.UnaryOp .USub (.Constant (.int 1) k p1) p2)) p3) (.ref a) (.ref s4.heap.objs.size)) (EP X pins σ Q) X.xe { s4 with heap := s4.heap.push { cls := .type "slice", data := .fields #[.none, .none, vs] } }
  refine tail_any (ops := [.ref a, .ref s4.heap.objs.size]) ht.typeIs (PyProof.Rows.slot_tuple_getitem.lookup) ?_ (by with_unfolding_all rfl)
  refine getItem_tuple_rev ht (Heap.IsSliceOf.new _ .none .none vs) ps (by rw [List.size_toArray]; omega) ?_
  have hf := I5.hok.fresh (H := H4) (Nat.le_refl _)
  refine ⟨.ref _, _, I5.laid (t' := s4.toks) (o := .tup xs.reverse) (fun b ob q => Heap.get?_push_of_some _ q) (Nat.le_refl _) ?_, rfl, q _ _ _ (g.trans (Gr.new g.fh hf)) (Rp.tup upd_same (RpAll.mono (same_upd (g.fh.free hf)) _ _ rx.reverse))⟩
  exact ⟨by rw [List.length_reverse]; exact hz, _, r.reverse, ⟨_, Heap.get?_push_size _ rfl, rfl, 0, by simp⟩⟩
end
end GY
namespace GY
open PySem PySem.Spec PyProof.Rows L2 RZ

/-! ## zip -/
abbrev zipD (ds es : List PyData) : List PyData := (ds.zip es).map fun p => .tuple [p.1, p.2]
theorem zip_len (ds es : List PyData) : (zipD ds es).length = min ds.length es.length := by simp [zipD]
theorem zip_get {ds es : List PyData} {i : Nat} {d : PyData} (h : (zipD ds es)[i]? = some d) : ∃ x y, ds[i]? = some x ∧ es[i]? = some y ∧ d = .tuple [x, y] := by
  unfold zipD at h
  rw [List.getElem?_map] at h
  cases e : (ds.zip es)[i]? with
  | none => rw [e] at h; cases h
  | some p =>
    rw [e] at h
    obtain ⟨x, y⟩ := p
    rw [List.getElem?_zip_eq_some] at e
    cases h
    exact ⟨x, y, e.1, e.2, rfl⟩
theorem yld_zipL {K : PySem.W.Frag} {F : Hp} {a b : Addr} {xs ys : List V} {ds es : List PyData} (ha : F a = some (.lst xs)) (hb : F b = some (.lst ys)) (ra : RpAll F xs ds) (rb : RpAll F ys es) : Yld F (Itz K a b) (zipD ds es) where
  go := fun i F1 H1 e f hi => by
    rw [zip_len] at hi
    exact ⟨xs, ys, xs[i]'(by rw [ra.length]; omega), ys[i]'(by rw [rb.length]; omega), SqL.of (f _ _ (e _ _ ha)), SqL.of (f _ _ (e _ _ hb)), by simp, by simp⟩
  stop := fun F1 H1 e f => ⟨xs, ys, SqL.of (f _ _ (e _ _ ha)), SqL.of (f _ _ (e _ _ hb)), by rw [zip_len, ra.length, rb.length]; omega⟩
  yld := fun i F1 H1 x H' d e f hd ⟨T, x1, y1, ev, hT, eH, h1, h2⟩ => by
    subst ev eH
    obtain ⟨dx, dy, q1, q2, rfl⟩ := zip_get hd
    obtain ⟨d1, z1, r1⟩ := ra.get (h1 xs (SqL.of (f _ _ (e _ _ ha))))
    obtain ⟨d2, z2, r2⟩ := rb.get (h2 ys (SqL.of (f _ _ (e _ _ hb))))
    rw [q1] at z1
    rw [q2] at z2
    cases z1
    cases z2
    exact ⟨_, Gr.new f hT, Rp.tup upd_same (.cons (Rp.mono (e.trans (same_upd (f.free hT))) _ _ r1) (.cons (Rp.mono (e.trans (same_upd (f.free hT))) _ _ r2) .nil))⟩
theorem yld_zipT {K : PySem.W.Frag} {F : Hp} {a b : Addr} {xs ys : List V} {ds es : List PyData} (ha : Rd F a (.tup xs)) (hb : Rd F b (.tup ys)) (ra : RpAll F xs ds) (rb : RpAll F ys es) : Yld F (ItzT K a b) (zipD ds es) where
  go := fun i F1 H1 e f hi => by
    rw [zip_len] at hi
    exact ⟨xs, ys, xs[i]'(by rw [ra.length]; omega), ys[i]'(by rw [rb.length]; omega), sqt_rd (rdm f (rdm e ha)), sqt_rd (rdm f (rdm e hb)), by simp, by simp⟩
  stop := fun F1 H1 e f => ⟨xs, ys, sqt_rd (rdm f (rdm e ha)), sqt_rd (rdm f (rdm e hb)), by rw [zip_len, ra.length, rb.length]; omega⟩
  yld := fun i F1 H1 x H' d e f hd ⟨T, x1, y1, ev, hT, eH, h1, h2⟩ => by
    subst ev eH
    obtain ⟨dx, dy, q1, q2, rfl⟩ := zip_get hd
    obtain ⟨d1, z1, r1⟩ := ra.get (h1 xs (sqt_rd (rdm f (rdm e ha))))
    obtain ⟨d2, z2, r2⟩ := rb.get (h2 ys (sqt_rd (rdm f (rdm e hb))))
    rw [q1] at z1
    rw [q2] at z2
    cases z1
    cases z2
    exact ⟨_, Gr.new f hT, Rp.tup upd_same (.cons (Rp.mono (e.trans (same_upd (f.free hT))) _ _ r1) (.cons (Rp.mono (e.trans (same_upd (f.free hT))) _ _ r2) .nil))⟩
section
variable {X : Cx} {e a b o i : Expr} {pos pos2 : Pos} {B : Bs} {ρ ρ' : List Sl} {s s1 s2 : Sl} {d : PyData} {ds es : List PyData} {p p2 tpos : Pos} {elts : List Expr} {kk : Nat}
theorem VsOk.pus2 {w : World} {F H : Hp} {vs : List V} {d e : PyData} (h : VsOk w F H vs [.pu d, .pu e]) : ∃ x y, vs = [x, y] ∧ Rp F x d ∧ Rp F y e := by
  obtain ⟨x, y, h1, h2, h3⟩ := h.two
  exact ⟨x, y, h1, h2, h3⟩
theorem izipL (hm : X.mg "zip" = none) (ha : PE X a (tV X.w B ρ (.pu (.list ds)))) (hb : PE X b (tV X.w B ρ (.pu (.list es)))) (hg : Gl X "zip" := by rfl)
    (hs : starEach [a, b] X.env = (false, eval a X.env) :: starEach [b] X.env := by rfl) (hs2 : starEach [b] X.env = (false, eval b X.env) :: starEach [] X.env := by rfl) (hpl : (backTo pos (starEach [b] X.env)).any (·.1) = false := by rfl) :
    PI X (.Tuple elts kk tpos) (.Call (.Name "zip" p) [a, b] [] pos) (tI X.w B ρ (zipD ds es)) :=
  weakI (pi_zipA hg hm (acons ha (acons hb anil hs2) hs) hs hpl) fun σ H R ⟨F, a, k⟩ => ⟨F, a, fun vs F1 H1 g o => by
    obtain ⟨x, y, ev, o1, o2⟩ := o.pus2
    obtain ⟨p1, xs, e1, h1, r1⟩ := Rp.list_inv o1
    obtain ⟨p2, ys, e2, h2, r2⟩ := Rp.list_inv o2
    subst ev e1 e2
    exact ⟨p1, p2, xs, ys, rfl, .inl ⟨SqL.of (g.fh _ _ h1), SqL.of (g.fh _ _ h2), k _ F1 H1 g (yld_zipL h1 h2 r1 r2)⟩⟩⟩
theorem izipT (hm : X.mg "zip" = none) (ha : PE X a (tV X.w B ρ (.pu (.tuple ds)))) (hb : PE X b (tV X.w B ρ (.pu (.tuple es)))) (hg : Gl X "zip" := by rfl)
    (hs : starEach [a, b] X.env = (false, eval a X.env) :: starEach [b] X.env := by rfl) (hs2 : starEach [b] X.env = (false, eval b X.env) :: starEach [] X.env := by rfl) (hpl : (backTo pos (starEach [b] X.env)).any (·.1) = false := by rfl) :
    PI X (.Tuple elts kk tpos) (.Call (.Name "zip" p) [a, b] [] pos) (tI X.w B ρ (zipD ds es)) :=
  weakI (pi_zipA hg hm (acons ha (acons hb anil hs2) hs) hs hpl) fun σ H R ⟨F, a, k⟩ => ⟨F, a, fun vs F1 H1 g o => by
    obtain ⟨x, y, ev, o1, o2⟩ := o.pus2
    obtain ⟨p1, xs, e1, h1, r1⟩ := Rp.tuple_inv o1
    obtain ⟨p2, ys, e2, h2, r2⟩ := Rp.tuple_inv o2
    subst ev e1 e2
    exact ⟨p1, p2, xs, ys, rfl, .inr ⟨sqt_rd (rdm g.fh h1), sqt_rd (rdm g.fh h2), k _ F1 H1 g (yld_zipT h1 h2 r1 r2)⟩⟩⟩
/-- tuple(range(n)) -/
theorem rgV_rng (n : Int) : rgV 0 n = (rng 0 n.toNat).map V.int := by
  unfold rgV rng
  rw [List.map_map, Int.sub_zero]
  rfl
theorem dtupRg {n : Int} (hc : X.calm = true) (hm : X.mg "tuple" = none) (hm2 : X.mg "range" = none) (ha : PE X a (tV X.w B ρ (.pu (.int n)))) (hn : 0 ≤ n ∧ n ≤ 1000) (hg : Gl X "tuple" := by rfl) (hg2 : Gl X "range" := by rfl)
    (na : starEach [a] X.env = (false, eval a X.env) :: starEach [] X.env := by rfl) (na2 : starEach [.Call (.Name "range" p2) [a] [] pos2] X.env = (false, eval (.Call (.Name "range" p2) [a] [] pos2) X.env) :: starEach [] X.env := by rfl) :
    PE X (.Call (.Name "tuple" p) [.Call (.Name "range" p2) [a] [] pos2] [] pos) (tV X.w B ρ (.kt (rng 0 n.toNat))) :=
  weakE (pe_tupRg hc hg hm (prg_1 hg2 hm2 ha na) na2) fun σ H Q ⟨F, a, k⟩ => ⟨F, a, fun v F1 H1 g o => ⟨n, Rp.int_inv o, RgOk.of_le (by omega) (by omega) (by omega) (by omega), fun t ht => by
    rw [rgV_rng]
    exact k _ _ _ (g.trans (Gr.new g.fh ht)) ⟨t, rfl, by rw [upd_same, keyV]⟩⟩⟩
variable {R : Sl → List Sl → Prop}
theorem dlc1 {α : Type} (i : Nat) (emb : α → PyData) (f : α → Bool) (h : α → PyData) {xs : List α} {x : Str} {px : Pos} {elt iter : Expr} {ifs : List Expr} {scope : Scope} (nd : X.N.Nodup) (hi : PI X (.Name x px) iter (tI X.w B ρ (xs.map emb))) 
    (ht : ∀ {s : Shared} {H : Hp} {C : Addr} {cl : List (Str × Addr)} {fp : List Addr} (a : α), a ∈ xs → PTs (X.blk s H scope (compEnvC scope cl C X.env) fp) ifs (tT X.w B ((wipeR ρ [i]).set i (.pu (emb a))) (f a)))
    (he : ∀ {s : Shared} {H : Hp} {C : Addr} {cl : List (Str × Addr)} {fp : List Addr} (a : α), a ∈ xs → f a = true → PE (X.blk s H scope (compEnvC scope cl C X.env) fp) elt (tV X.w B ((wipeR ρ [i]).set i (.pu (emb a))) (.pu (h a))))
    (hl : xs.length ≤ 1000) (hi' : X.N[i]? = some x := by rfl)  (ok : BlkOk X.N X.env.scope scope [(x, i)] := by exact blkOk_by (by kernel_rfl)) (hc : X.calm = true := by rfl)  (hx : ∀ (s : Shared) (H : Hp) (C : Addr) (cl : List (Str × Addr)) (fp : List Addr), Loc (X.blk s H scope (compEnvC scope cl C X.env) fp).env.scope x := by intro _ _ _ _ _; first | exact Or.inl rfl | exact Or.inr rfl) (fx : ∀ (s : Shared) (H : Hp) (C : Addr) (cl : List (Str × Addr)) (fp : List Addr), (X.blk s H scope (compEnvC scope cl C X.env) fp).fn x = true ∨ (X.blk s H scope (compEnvC scope cl C X.env) fp).env.scope.names.lookup x = some .local := by intro _ _ _ _ _; first | exact .inl rfl | exact .inr rfl) (hs : ∀ x, foldedSetIterable iter X.env x = pure x := by intro _; rfl) :
    PE X (.ListComp elt [⟨.Name x px, iter, ifs, 0⟩] scope pos) (tN X.w B ρ (.ol ((xs.filter f).map h))) :=
  dlc (own := [(x, i)]) (js := [i]) (f := f) (h := h) (ρb := fun a => (wipeR ρ [i]).set i (.pu (emb a))) (g := gName i) emb hi hc nd ok (fun s H C cl fp => pg_name (X := (X.blk s H scope (compEnvC scope cl C X.env) fp)) nd hi' (hx s H C cl fp) (fx s H C cl fp)) (by simp) (fun a _ => bd1 i) (fun s H C cl fp a ha => ht a ha) (fun s H C cl fp a ha hf => he a ha hf) hl hs
theorem dlc2 {α : Type} (i j : Nat) (emb e1 e2 : α → PyData) (f : α → Bool) (h : α → PyData) {xs : List α} {x y : Str} {px py tp : Pos} {kk : Nat} {elt iter : Expr} {ifs : List Expr} {scope : Scope} (nd : X.N.Nodup) (hi : PI X (.Tuple [.Name x px, .Name y py] kk tp) iter (tI X.w B ρ (xs.map emb))) (hq : ∀ a ∈ xs, emb a = .tuple [e1 a, e2 a]) 
    (ht : ∀ {s : Shared} {H : Hp} {C : Addr} {cl : List (Str × Addr)} {fp : List Addr} (a : α), a ∈ xs → PTs (X.blk s H scope (compEnvC scope cl C X.env) fp) ifs (tT X.w B (((wipeR ρ [i, j]).set i (.pu (e1 a))).set j (.pu (e2 a))) (f a)))
    (he : ∀ {s : Shared} {H : Hp} {C : Addr} {cl : List (Str × Addr)} {fp : List Addr} (a : α), a ∈ xs → f a = true → PE (X.blk s H scope (compEnvC scope cl C X.env) fp) elt (tV X.w B (((wipeR ρ [i, j]).set i (.pu (e1 a))).set j (.pu (e2 a))) (.pu (h a))))
    (hl : xs.length ≤ 1000) (hi' : X.N[i]? = some x := by rfl) (hj' : X.N[j]? = some y := by rfl)  (ok : BlkOk X.N X.env.scope scope [(x, i), (y, j)] := by exact blkOk_by (by kernel_rfl)) (hc : X.calm = true := by rfl) (hpg : ∀ {s : Shared} {H : Hp} {C : Addr} {cl : List (Str × Addr)} {fp : List Addr}, ∀ {t : TGs}, PGs (X.blk s H scope (compEnvC scope cl C X.env) fp) [.Name x px, .Name y py] t → PG (X.blk s H scope (compEnvC scope cl C X.env) fp) (.Tuple [.Name x px, .Name y py] kk tp) (gTup X.K 2 t) := by intro _ _ _ _ _ _ h; exact pg_tup rfl h) (hx : ∀ (s : Shared) (H : Hp) (C : Addr) (cl : List (Str × Addr)) (fp : List Addr), Loc (X.blk s H scope (compEnvC scope cl C X.env) fp).env.scope x := by intro _ _ _ _ _; first | exact Or.inl rfl | exact Or.inr rfl) (fx : ∀ (s : Shared) (H : Hp) (C : Addr) (cl : List (Str × Addr)) (fp : List Addr), (X.blk s H scope (compEnvC scope cl C X.env) fp).fn x = true ∨ (X.blk s H scope (compEnvC scope cl C X.env) fp).env.scope.names.lookup x = some .local := by intro _ _ _ _ _; first | exact .inl rfl | exact .inr rfl) (hy : ∀ (s : Shared) (H : Hp) (C : Addr) (cl : List (Str × Addr)) (fp : List Addr), Loc (X.blk s H scope (compEnvC scope cl C X.env) fp).env.scope y := by intro _ _ _ _ _; first | exact Or.inl rfl | exact Or.inr rfl) (fy : ∀ (s : Shared) (H : Hp) (C : Addr) (cl : List (Str × Addr)) (fp : List Addr), (X.blk s H scope (compEnvC scope cl C X.env) fp).fn y = true ∨ (X.blk s H scope (compEnvC scope cl C X.env) fp).env.scope.names.lookup y = some .local := by intro _ _ _ _ _; first | exact .inl rfl | exact .inr rfl) (hs : ∀ x, foldedSetIterable iter X.env x = pure x := by intro _; rfl) :
    PE X (.ListComp elt [⟨.Tuple [.Name x px, .Name y py] kk tp, iter, ifs, 0⟩] scope pos) (tN X.w B ρ (.ol ((xs.filter f).map h))) :=
  dlc (own := [(x, i), (y, j)]) (js := [i, j]) (f := f) (h := h) (ρb := fun a => ((wipeR ρ [i, j]).set i (.pu (e1 a))).set j (.pu (e2 a))) (g := gTup X.K 2 (gCons (gName i) (gCons (gName j) gNil))) emb hi hc nd ok (fun s H C cl fp => hpg (pgs_cons (pg_name (X := (X.blk s H scope (compEnvC scope cl C X.env) fp)) nd hi' (hx s H C cl fp) (fx s H C cl fp)) (pgs_cons (pg_name (X := (X.blk s H scope (compEnvC scope cl C X.env) fp)) nd hj' (hy s H C cl fp) (fy s H C cl fp)) pgs_nil))) (by simp) (fun a ha => by rw [hq a ha]; exact bd2 i j) (fun s H C cl fp a ha => ht a ha) (fun s H C cl fp a ha hf => he a ha hf) hl hs
theorem dsc1 {α : Type} (i : Nat) (emb : α → PyData) (f : α → Bool) (h : α → Int) {xs : List α} {x : Str} {px : Pos} {elt iter : Expr} {ifs : List Expr} {scope : Scope} (nd : X.N.Nodup) (hi : PI X (.Name x px) iter (tI X.w B ρ (xs.map emb))) 
    (ht : ∀ {s : Shared} {H : Hp} {C : Addr} {cl : List (Str × Addr)} {fp : List Addr} (a : α), a ∈ xs → PTs (X.blk s H scope (compEnvC scope cl C X.env) fp) ifs (tT X.w B ((wipeR ρ [i]).set i (.pu (emb a))) (f a)))
    (he : ∀ {s : Shared} {H : Hp} {C : Addr} {cl : List (Str × Addr)} {fp : List Addr} (a : α), a ∈ xs → f a = true → PE (X.blk s H scope (compEnvC scope cl C X.env) fp) elt (tV X.w B ((wipeR ρ [i]).set i (.pu (emb a))) (.pu (.int (h a)))))
    (hl : xs.length ≤ 100) (hi' : X.N[i]? = some x := by rfl)  (ok : BlkOk X.N X.env.scope scope [(x, i)] := by exact blkOk_by (by kernel_rfl)) (hc : X.calm = true := by rfl)  (hx : ∀ (s : Shared) (H : Hp) (C : Addr) (cl : List (Str × Addr)) (fp : List Addr), Loc (X.blk s H scope (compEnvC scope cl C X.env) fp).env.scope x := by intro _ _ _ _ _; first | exact Or.inl rfl | exact Or.inr rfl) (fx : ∀ (s : Shared) (H : Hp) (C : Addr) (cl : List (Str × Addr)) (fp : List Addr), (X.blk s H scope (compEnvC scope cl C X.env) fp).fn x = true ∨ (X.blk s H scope (compEnvC scope cl C X.env) fp).env.scope.names.lookup x = some .local := by intro _ _ _ _ _; first | exact .inl rfl | exact .inr rfl) (hs : ∀ x, foldedSetIterable iter X.env x = pure x := by intro _; rfl) :
    PE X (.SetComp elt [⟨.Name x px, iter, ifs, 0⟩] scope pos) (tV X.w B ρ (.ss (memS ((xs.filter f).map h)) (cntS ((xs.filter f).map h)))) :=
  dsc (own := [(x, i)]) (js := [i]) (f := f) (h := h) (ρb := fun a => (wipeR ρ [i]).set i (.pu (emb a))) (g := gName i) emb hi hc nd ok (fun s H C cl fp => pg_name (X := (X.blk s H scope (compEnvC scope cl C X.env) fp)) nd hi' (hx s H C cl fp) (fx s H C cl fp)) (by simp) (fun a _ => bd1 i) (fun s H C cl fp a ha => ht a ha) (fun s H C cl fp a ha hf => he a ha hf) hl hs
theorem dsc2 {α : Type} (i j : Nat) (emb e1 e2 : α → PyData) (f : α → Bool) (h : α → Int) {xs : List α} {x y : Str} {px py tp : Pos} {kk : Nat} {elt iter : Expr} {ifs : List Expr} {scope : Scope} (nd : X.N.Nodup) (hi : PI X (.Tuple [.Name x px, .Name y py] kk tp) iter (tI X.w B ρ (xs.map emb))) (hq : ∀ a ∈ xs, emb a = .tuple [e1 a, e2 a]) 
    (ht : ∀ {s : Shared} {H : Hp} {C : Addr} {cl : List (Str × Addr)} {fp : List Addr} (a : α), a ∈ xs → PTs (X.blk s H scope (compEnvC scope cl C X.env) fp) ifs (tT X.w B (((wipeR ρ [i, j]).set i (.pu (e1 a))).set j (.pu (e2 a))) (f a)))
    (he : ∀ {s : Shared} {H : Hp} {C : Addr} {cl : List (Str × Addr)} {fp : List Addr} (a : α), a ∈ xs → f a = true → PE (X.blk s H scope (compEnvC scope cl C X.env) fp) elt (tV X.w B (((wipeR ρ [i, j]).set i (.pu (e1 a))).set j (.pu (e2 a))) (.pu (.int (h a)))))
    (hl : xs.length ≤ 100) (hi' : X.N[i]? = some x := by rfl) (hj' : X.N[j]? = some y := by rfl)  (ok : BlkOk X.N X.env.scope scope [(x, i), (y, j)] := by exact blkOk_by (by kernel_rfl)) (hc : X.calm = true := by rfl) (hpg : ∀ {s : Shared} {H : Hp} {C : Addr} {cl : List (Str × Addr)} {fp : List Addr}, ∀ {t : TGs}, PGs (X.blk s H scope (compEnvC scope cl C X.env) fp) [.Name x px, .Name y py] t → PG (X.blk s H scope (compEnvC scope cl C X.env) fp) (.Tuple [.Name x px, .Name y py] kk tp) (gTup X.K 2 t) := by intro _ _ _ _ _ _ h; exact pg_tup rfl h) (hx : ∀ (s : Shared) (H : Hp) (C : Addr) (cl : List (Str × Addr)) (fp : List Addr), Loc (X.blk s H scope (compEnvC scope cl C X.env) fp).env.scope x := by intro _ _ _ _ _; first | exact Or.inl rfl | exact Or.inr rfl) (fx : ∀ (s : Shared) (H : Hp) (C : Addr) (cl : List (Str × Addr)) (fp : List Addr), (X.blk s H scope (compEnvC scope cl C X.env) fp).fn x = true ∨ (X.blk s H scope (compEnvC scope cl C X.env) fp).env.scope.names.lookup x = some .local := by intro _ _ _ _ _; first | exact .inl rfl | exact .inr rfl) (hy : ∀ (s : Shared) (H : Hp) (C : Addr) (cl : List (Str × Addr)) (fp : List Addr), Loc (X.blk s H scope (compEnvC scope cl C X.env) fp).env.scope y := by intro _ _ _ _ _; first | exact Or.inl rfl | exact Or.inr rfl) (fy : ∀ (s : Shared) (H : Hp) (C : Addr) (cl : List (Str × Addr)) (fp : List Addr), (X.blk s H scope (compEnvC scope cl C X.env) fp).fn y = true ∨ (X.blk s H scope (compEnvC scope cl C X.env) fp).env.scope.names.lookup y = some .local := by intro _ _ _ _ _; first | exact .inl rfl | exact .inr rfl) (hs : ∀ x, foldedSetIterable iter X.env x = pure x := by intro _; rfl) :
    PE X (.SetComp elt [⟨.Tuple [.Name x px, .Name y py] kk tp, iter, ifs, 0⟩] scope pos) (tV X.w B ρ (.ss (memS ((xs.filter f).map h)) (cntS ((xs.filter f).map h)))) :=
  dsc (own := [(x, i), (y, j)]) (js := [i, j]) (f := f) (h := h) (ρb := fun a => ((wipeR ρ [i, j]).set i (.pu (e1 a))).set j (.pu (e2 a))) (g := gTup X.K 2 (gCons (gName i) (gCons (gName j) gNil))) emb hi hc nd ok (fun s H C cl fp => hpg (pgs_cons (pg_name (X := (X.blk s H scope (compEnvC scope cl C X.env) fp)) nd hi' (hx s H C cl fp) (fx s H C cl fp)) (pgs_cons (pg_name (X := (X.blk s H scope (compEnvC scope cl C X.env) fp)) nd hj' (hy s H C cl fp) (fy s H C cl fp)) pgs_nil))) (by simp) (fun a ha => by rw [hq a ha]; exact bd2 i j) (fun s H C cl fp a ha => ht a ha) (fun s H C cl fp a ha hf => he a ha hf) hl hs
theorem hs_setLc1 {α : Type} (iz i : Nat) {z : Str} {pz spos : Pos} (emb : α → PyData) (f : α → Bool) (h : α → PyData) {xs : List α} {x : Str} {px : Pos} {elt iter : Expr} {ifs : List Expr} {scope : Scope} (nd : X.N.Nodup) (hi : PI X (.Name x px) iter (tI X.w B ρ (xs.map emb))) 
    (ht : ∀ {s : Shared} {H : Hp} {C : Addr} {cl : List (Str × Addr)} {fp : List Addr} (a : α), a ∈ xs → PTs (X.blk s H scope (compEnvC scope cl C X.env) fp) ifs (tT X.w B ((wipeR ρ [i]).set i (.pu (emb a))) (f a)))
    (he : ∀ {s : Shared} {H : Hp} {C : Addr} {cl : List (Str × Addr)} {fp : List Addr} (a : α), a ∈ xs → f a = true → PE (X.blk s H scope (compEnvC scope cl C X.env) fp) elt (tV X.w B ((wipeR ρ [i]).set i (.pu (emb a))) (.pu (h a))))
    (hl : xs.length ≤ 1000) (hi' : X.N[i]? = some x := by rfl) (hz : X.N[iz]? = some z := by rfl) (hzl : X.env.scope.names.lookup z = some .local := by rfl) (hsw : swapsWith (.ListComp elt [⟨.Name x px, iter, ifs, 0⟩] scope pos) (some (.Name z pz)) spos.line X.env = pure true := by rfl) (ok : BlkOk X.N X.env.scope scope [(x, i)] := by exact blkOk_by (by kernel_rfl)) (hc : X.calm = true := by rfl)  (hx : ∀ (s : Shared) (H : Hp) (C : Addr) (cl : List (Str × Addr)) (fp : List Addr), Loc (X.blk s H scope (compEnvC scope cl C X.env) fp).env.scope x := by intro _ _ _ _ _; first | exact Or.inl rfl | exact Or.inr rfl) (fx : ∀ (s : Shared) (H : Hp) (C : Addr) (cl : List (Str × Addr)) (fp : List Addr), (X.blk s H scope (compEnvC scope cl C X.env) fp).fn x = true ∨ (X.blk s H scope (compEnvC scope cl C X.env) fp).env.scope.names.lookup x = some .local := by intro _ _ _ _ _; first | exact .inl rfl | exact .inr rfl) (hs : ∀ x, foldedSetIterable iter X.env x = pure x := by intro _; rfl) :
    PS X (.Assign [.Name z pz] (.ListComp elt [⟨.Name x px, iter, ifs, 0⟩] scope pos) spos) (tH X.w B ρ (· = ρ.set iz (.ol ((xs.filter f).map h))) R) :=
  hs_setLc iz (own := [(x, i)]) (js := [i]) (f := f) (h := h) (ρb := fun a => (wipeR ρ [i]).set i (.pu (emb a))) (g := gName i) emb hi hc nd ok hsw (fun s H C cl fp => pg_name (X := (X.blk s H scope (compEnvC scope cl C X.env) fp)) nd hi' (hx s H C cl fp) (fx s H C cl fp)) (by simp) (fun a _ => bd1 i) (fun s H C cl fp a ha => ht a ha) (fun s H C cl fp a ha hf => he a ha hf) hl hz hzl hs
theorem hs_setLc2 {α : Type} (iz i j : Nat) {z : Str} {pz spos : Pos} (emb e1 e2 : α → PyData) (f : α → Bool) (h : α → PyData) {xs : List α} {x y : Str} {px py tp : Pos} {kk : Nat} {elt iter : Expr} {ifs : List Expr} {scope : Scope} (nd : X.N.Nodup) (hi : PI X (.Tuple [.Name x px, .Name y py] kk tp) iter (tI X.w B ρ (xs.map emb))) (hq : ∀ a ∈ xs, emb a = .tuple [e1 a, e2 a]) 
    (ht : ∀ {s : Shared} {H : Hp} {C : Addr} {cl : List (Str × Addr)} {fp : List Addr} (a : α), a ∈ xs → PTs (X.blk s H scope (compEnvC scope cl C X.env) fp) ifs (tT X.w B (((wipeR ρ [i, j]).set i (.pu (e1 a))).set j (.pu (e2 a))) (f a)))
    (he : ∀ {s : Shared} {H : Hp} {C : Addr} {cl : List (Str × Addr)} {fp : List Addr} (a : α), a ∈ xs → f a = true → PE (X.blk s H scope (compEnvC scope cl C X.env) fp) elt (tV X.w B (((wipeR ρ [i, j]).set i (.pu (e1 a))).set j (.pu (e2 a))) (.pu (h a))))
    (hl : xs.length ≤ 1000) (hi' : X.N[i]? = some x := by rfl) (hj' : X.N[j]? = some y := by rfl) (hz : X.N[iz]? = some z := by rfl) (hzl : X.env.scope.names.lookup z = some .local := by rfl) (hsw : swapsWith (.ListComp elt [⟨.Tuple [.Name x px, .Name y py] kk tp, iter, ifs, 0⟩] scope pos) (some (.Name z pz)) spos.line X.env = pure true := by rfl) (ok : BlkOk X.N X.env.scope scope [(x, i), (y, j)] := by exact blkOk_by (by kernel_rfl)) (hc : X.calm = true := by rfl) (hpg : ∀ {s : Shared} {H : Hp} {C : Addr} {cl : List (Str × Addr)} {fp : List Addr}, ∀ {t : TGs}, PGs (X.blk s H scope (compEnvC scope cl C X.env) fp) [.Name x px, .Name y py] t → PG (X.blk s H scope (compEnvC scope cl C X.env) fp) (.Tuple [.Name x px, .Name y py] kk tp) (gTup X.K 2 t) := by intro _ _ _ _ _ _ h; exact pg_tup rfl h) (hx : ∀ (s : Shared) (H : Hp) (C : Addr) (cl : List (Str × Addr)) (fp : List Addr), Loc (X.blk s H scope (compEnvC scope cl C X.env) fp).env.scope x := by intro _ _ _ _ _; first | exact Or.inl rfl | exact Or.inr rfl) (fx : ∀ (s : Shared) (H : Hp) (C : Addr) (cl : List (Str × Addr)) (fp : List Addr), (X.blk s H scope (compEnvC scope cl C X.env) fp).fn x = true ∨ (X.blk s H scope (compEnvC scope cl C X.env) fp).env.scope.names.lookup x = some .local := by intro _ _ _ _ _; first | exact .inl rfl | exact .inr rfl) (hy : ∀ (s : Shared) (H : Hp) (C : Addr) (cl : List (Str × Addr)) (fp : List Addr), Loc (X.blk s H scope (compEnvC scope cl C X.env) fp).env.scope y := by intro _ _ _ _ _; first | exact Or.inl rfl | exact Or.inr rfl) (fy : ∀ (s : Shared) (H : Hp) (C : Addr) (cl : List (Str × Addr)) (fp : List Addr), (X.blk s H scope (compEnvC scope cl C X.env) fp).fn y = true ∨ (X.blk s H scope (compEnvC scope cl C X.env) fp).env.scope.names.lookup y = some .local := by intro _ _ _ _ _; first | exact .inl rfl | exact .inr rfl) (hs : ∀ x, foldedSetIterable iter X.env x = pure x := by intro _; rfl) :
    PS X (.Assign [.Name z pz] (.ListComp elt [⟨.Tuple [.Name x px, .Name y py] kk tp, iter, ifs, 0⟩] scope pos) spos) (tH X.w B ρ (· = ρ.set iz (.ol ((xs.filter f).map h))) R) :=
  hs_setLc iz (own := [(x, i), (y, j)]) (js := [i, j]) (f := f) (h := h) (ρb := fun a => ((wipeR ρ [i, j]).set i (.pu (e1 a))).set j (.pu (e2 a))) (g := gTup X.K 2 (gCons (gName i) (gCons (gName j) gNil))) emb hi hc nd ok hsw (fun s H C cl fp => hpg (pgs_cons (pg_name (X := (X.blk s H scope (compEnvC scope cl C X.env) fp)) nd hi' (hx s H C cl fp) (fx s H C cl fp)) (pgs_cons (pg_name (X := (X.blk s H scope (compEnvC scope cl C X.env) fp)) nd hj' (hy s H C cl fp) (fy s H C cl fp)) pgs_nil))) (by simp) (fun a ha => by rw [hq a ha]; exact bd2 i j) (fun s H C cl fp a ha => ht a ha) (fun s H C cl fp a ha hf => he a ha hf) hl hz hzl hs
end
section
variable {X : Cx} {e a b o i : Expr} {pos pos2 : Pos} {B : Bs} {ρ ρ' : List Sl} {s s1 s2 : Sl} {d : PyData} {ds es : List PyData} {p p2 : Pos} {kvs : List (List Int × PyData)} {k : List Int} {v : Bool} {op : CmpOp}
/-! ## frozen dicts -/
theorem dfzD (h : PE X e (tN X.w B ρ (.od kvs))) : PE X e (tV X.w B ρ (.fd kvs)) :=
  weakE h fun σ H Q ⟨F, a, k⟩ => ⟨F, a, fun v F1 H1 g ⟨p, ws, ev, hf, ho, r⟩ n => by
    subst ev
    have hp : H p = none := n p rfl rfl
    exact k _ _ H1 (g.freeze hp hf ho) ⟨p, ws, rfl, upd_same, r.mono (same_upd hf)⟩⟩
theorem dN' (h : PE X e (tV X.w B ρ s)) (n : s.own = false) : PE X e (tN X.w B ρ s) := weakE h fun σ H Q ⟨F, a, k⟩ => ⟨F, a, fun v F1 H1 g o => k v F1 H1 g o fun _ z => by rw [n] at z; cases z⟩
/-- a dict, own or frozen -/
theorem dict_at {w : World} {F H : Hp} {v : V} {s : Sl} (f : Same F H) (h : VOk w F H v s) (hs : s = .od kvs ∨ s = .fd kvs) : ∃ p ws, v = .ref p ∧ H p = some (.dT ws) ∧ DictRep F ws kvs := by
  rcases hs with rfl | rfl
  · obtain ⟨p, ws, e, _, h, r⟩ := h; exact ⟨p, ws, e, h, r⟩
  · obtain ⟨p, ws, e, h, r⟩ := h; exact ⟨p, ws, e, f _ _ h, r⟩
theorem dget' {n : Nat} (hr : Room n X.A) (ho : PE X o (tV X.w B ρ s)) (hi : PE X i (tV X.w B ρ (.kt k))) (hd : dGet kvs k = some d) (ht : s = .od kvs ∨ s = .fd kvs := by first | exact Or.inl rfl | exact Or.inr rfl) (hs : NoSl i := by intro _ _; rfl) : PE X (.Subscript o i pos) (tV X.w B ρ (.pu d)) :=
  weakE (pe_dget (hu_of hr) ho hi hs) fun σ H Q ⟨F, a, q⟩ => ⟨F, a, fun v F1 H1 g1 ov => by
    obtain ⟨p, ws, ev, hp, r⟩ := dict_at g1.fh ov ht
    refine ⟨F1, a.grow g1, fun y F2 H2 g2 oy => ?_⟩
    obtain ⟨bk, ey, hb⟩ := oy
    obtain ⟨u, hu, ru⟩ := (dict_get k r).1 d hd
    subst ev ey
    refine ⟨p, u, rfl, ?_, q u F2 H2 (g1.trans g2) (Rp.mono g2.f _ _ ru)⟩
    rw [← hu]
    exact DGet.t (g2.h _ _ hp) (g2.fh _ _ hb)⟩
theorem in_dict' {w : World} {neg : Bool} {σ : L2.St} {H : Hp} {Q : VK} (ht : s = .od kvs ∨ s = .fd kvs) (q : tV w B ρ (.pu (.bool (if neg then !(dGet kvs k).isSome else (dGet kvs k).isSome))) σ H Q) :
    (tV w B ρ (.kt k)) σ H fun y H1 => (tV w B ρ s) σ H1 fun x H2 => ∃ a o, x = .ref a ∧ DGet H2 a y o ∧ Q (.bl (if neg then !o.isSome else o.isSome)) H2 := by
  obtain ⟨F, a, q⟩ := q
  refine ⟨F, a, fun y F1 H1 g1 oy => ⟨F1, a.grow g1, fun v F2 H2 g2 ov => ?_⟩⟩
  obtain ⟨p, ws, ev, hp, r⟩ := dict_at (g2.fh) ov ht
  obtain ⟨bk, ey, hb⟩ := oy
  subst ev ey
  have hd : DGet H2 p (.ref bk) (valV ws (k.map Sum.inl)) := DGet.t hp (g2.h _ _ (g1.fh _ _ hb))
  refine ⟨p, _, rfl, hd, ?_⟩
  have e : (valV ws (k.map Sum.inl)).isSome = (dGet kvs k).isSome := by
    cases h : dGet kvs k with
    | none => simp [(dict_get k r).2 h]
    | some d =>
      obtain ⟨u, hu, _⟩ := (dict_get k r).1 d h
      rw [hu]
      rfl
  rw [e]
  exact q _ F2 H2 (g1.trans g2) (Rp.bl _)
theorem cdin' {n : Nat} (hr : Room n X.A) (hi : PE X i (tV X.w B ρ (.kt k))) (ho : PE X o (tV X.w B ρ s)) (ht : s = .od kvs ∨ s = .fd kvs := by first | exact Or.inl rfl | exact Or.inr rfl) : CB X B ρ .In i o (dGet kvs k).isSome := weakC (pc_din (hu_of hr) hi ho) fun σ H Q q => in_dict' ht (neg := false) q
theorem cdnin' {n : Nat} (hr : Room n X.A) (hi : PE X i (tV X.w B ρ (.kt k))) (ho : PE X o (tV X.w B ρ s)) (ht : s = .od kvs ∨ s = .fd kvs := by first | exact Or.inl rfl | exact Or.inr rfl) : CB X B ρ .NotIn i o (!(dGet kvs k).isSome) := weakC (pc_dnotin (hu_of hr) hi ho) fun σ H Q q => in_dict' ht (neg := true) q
/-! ## len of a set -/
def rLenS (X : Cx) : List V → Hp → VK → Prop := fun vs H Q => ∃ (a : Addr) (S : Int → Bool) (n : Nat), vs = [V.ref a] ∧ H a = some (SetO X.w a S n) ∧ n ≤ 1000 ∧ Q (.int n) H
theorem cr_lenS : CallR X (.builtin "len") (rLenS X) := by
  intro pins s σ H vs us Q I r h
  obtain ⟨a, S, n, rfl, ha, hn, q⟩ := h
  rw [Vals.ref1 r]
  obtain ⟨o, es, ep, t, ho, hex, hd, _, _, _, _, hf, hsz, _⟩ := setO_get I ha
  exact call_len_set ho hex hd hf (by rw [hsz]; omega) ⟨.int n, H, I.tok _, ⟨_, by rw [hsz]⟩, q⟩
theorem dlenS {S : Int → Bool} {n : Nat} (hm : X.mg "len" = none) (h : PE X e (tV X.w B ρ (.ss S n))) (hn : n ≤ 1000) (hg : Gl X "len" := by rfl) (he : starEach (e :: []) X.env = (false, eval e X.env) :: starEach [] X.env := by rfl) (hpl : (backTo pos (starEach [] X.env)).any (·.1) = false := by rfl) :
    PE X (.Call (.Name "len" p) [e] [] pos) (tV X.w B ρ (.pu (.int n))) :=
  dV (dblt cr_lenS hm PySem.boot_len (acons h anil he) (fun vs F H Q f o k => by
    obtain ⟨v, ev, q, ex, hq⟩ := o.one
    exact ⟨q, S, n, by rw [ev, ex], f _ _ hq, hn, k _ F H (Gr.refl f) (Rp.int _) npu⟩) hg (by decide) (by decide) he hpl)
end
end GY
namespace GY
open PySem PySem.Spec PyProof.Rows L2
/-! ## the text by places -/
def topS (i : Nat) : Stmt := PySem.Challenge.pw_gatheryard_k85_whole_orders_that_fit_or.main.body.getD i (.Pass ⟨0, 0, 0, 0⟩)
/-- what the module's globals hold -/
structure Mg (mg : Str → Option Value) : Prop where
  len_ : mg "len" = none
  range_ : mg "range" = none
  sorted_ : mg "sorted" = none
  set_ : mg "set" = none
  tuple_ : mg "tuple" = none
  list_ : mg "list" = none
  dict_ : mg "dict" = none
  max_ : mg "max" = none
  min_ : mg "min" = none
  all_ : mg "all" = none
  any_ : mg "any" = none
  isinstance_ : mg "isinstance" = none
  int_ : mg "int" = none
  bool_ : mg "bool" = none
  str_ : mg "str" = none
  zip_ : mg "zip" = none
  abs_ : mg "abs" = none
  enumerate_ : mg "enumerate" = none
  comb : mg "combinations" = some (.type "itertools.combinations")
  perm : mg "permutations" = some (.type "itertools.permutations")
abbrev s_is_number : Stmt := topS 4
abbrev n_is_number : List Str := ["thing"]
theorem sc_is_number : FnScope n_is_number ["thing"] (defScope s_is_number) := ⟨rfl, rfl, rfl, by decide +kernel, rfl, by decide +kernel, by decide +kernel⟩
abbrev s_tuple_of : Stmt := topS 5
abbrev n_tuple_of : List Str := ["thing", "part"]
theorem sc_tuple_of : FnScope n_tuple_of ["thing"] (defScope s_tuple_of) := ⟨rfl, rfl, rfl, by decide +kernel, rfl, by decide +kernel, by decide +kernel⟩
abbrev s_all_areas : Stmt := topS 7
abbrev n_all_areas : List Str := ["rule", "own", "_"]
theorem sc_all_areas : FnScope n_all_areas ["rule"] (defScope s_all_areas) := ⟨rfl, rfl, rfl, by decide +kernel, rfl, by decide +kernel, by decide +kernel⟩
abbrev s_rows_within : Stmt := topS 8
abbrev n_rows_within : List Str := ["rule", "lot", "own", "picks", "area"]
theorem sc_rows_within : FnScope n_rows_within ["rule", "lot"] (defScope s_rows_within) := ⟨rfl, rfl, rfl, by decide +kernel, rfl, by decide +kernel, by decide +kernel⟩
abbrev s_leads_in : Stmt := topS 9
abbrev n_leads_in : List Str := ["rule", "lot", "found", "own", "picks", "other", "one"]
theorem sc_leads_in : FnScope n_leads_in ["rule", "lot"] (defScope s_leads_in) := ⟨rfl, rfl, rfl, by decide +kernel, rfl, by decide +kernel, by decide +kernel⟩
abbrev s_flooded : Stmt := topS 10
abbrev n_flooded : List Str := ["pairs", "area", "found", "left", "here", "one", "other"]
theorem sc_flooded : FnScope n_flooded ["pairs", "area"] (defScope s_flooded) := ⟨rfl, rfl, rfl, by decide +kernel, rfl, by decide +kernel, by decide +kernel⟩
abbrev s_turned : Stmt := topS 11
abbrev n_turned : List Str := ["pairs", "one", "other"]
theorem sc_turned : FnScope n_turned ["pairs"] (defScope s_turned) := ⟨rfl, rfl, rfl, by decide +kernel, rfl, by decide +kernel, by decide +kernel⟩
abbrev s_closed_in : Stmt := topS 12
abbrev n_closed_in : List Str := ["rule", "lot", "backs", "found", "area", "_", "own"]
theorem sc_closed_in : FnScope n_closed_in ["rule", "lot"] (defScope s_closed_in) := ⟨rfl, rfl, rfl, by decide +kernel, rfl, by decide +kernel, by decide +kernel⟩
abbrev s_first_lot : Stmt := topS 13
abbrev n_first_lot : List Str := ["rule", "lot"]
theorem sc_first_lot : FnScope n_first_lot ["rule", "lot"] (defScope s_first_lot) := ⟨rfl, rfl, rfl, by decide +kernel, rfl, by decide +kernel, by decide +kernel⟩
abbrev s_lots_of : Stmt := topS 15
abbrev n_lots_of : List Str := ["m", "found", "many"]
theorem sc_lots_of : FnScope n_lots_of ["m"] (defScope s_lots_of) := ⟨rfl, rfl, rfl, by decide +kernel, rfl, by decide +kernel, by decide +kernel⟩
abbrev s_lies_in : Stmt := topS 16
abbrev n_lies_in : List Str := ["lot", "lots", "area", "own"]
theorem sc_lies_in : FnScope n_lies_in ["lot", "lots"] (defScope s_lies_in) := ⟨rfl, rfl, rfl, by decide +kernel, rfl, by decide +kernel, by decide +kernel⟩
abbrev s_fits : Stmt := topS 18
abbrev n_fits : List Str := ["told", "rule", "picks", "lot", "area"]
theorem sc_fits : FnScope n_fits ["told", "rule"] (defScope s_fits) := ⟨rfl, rfl, rfl, by decide +kernel, rfl, by decide +kernel, by decide +kernel⟩
abbrev s_first_in : Stmt := topS 19
abbrev n_first_in : List Str := ["order", "lot", "area"]
theorem sc_first_in : FnScope n_first_in ["order", "lot"] (defScope s_first_in) := ⟨rfl, rfl, rfl, by decide +kernel, rfl, by decide +kernel, by decide +kernel⟩
abbrev s_orders_told : Stmt := topS 20
abbrev n_orders_told : List Str := ["m", "told", "own", "order", "lot", "area"]
theorem sc_orders_told : FnScope n_orders_told ["m", "told"] (defScope s_orders_told) := ⟨rfl, rfl, rfl, by decide +kernel, rfl, by decide +kernel, by decide +kernel⟩
abbrev s_lot_within : Stmt := topS 21
abbrev n_lot_within : List Str := ["lots", "area", "own", "whole", "found", "lot", "other"]
theorem sc_lot_within : FnScope n_lot_within ["lots", "area", "own", "whole"] (defScope s_lot_within) := ⟨rfl, rfl, rfl, by decide +kernel, rfl, by decide +kernel, by decide +kernel⟩
abbrev s_ways_of : Stmt := topS 22
abbrev n_ways_of : List Str := ["m", "told", "own", "lots", "found", "many", "whole", "total", "area", "rest", "other"]
theorem sc_ways_of : FnScope n_ways_of ["m", "told"] (defScope s_ways_of) := ⟨rfl, rfl, rfl, by decide +kernel, rfl, by decide +kernel, by decide +kernel⟩
abbrev s_goods_many : Stmt := topS 23
abbrev n_goods_many : List Str := ["m", "told"]
theorem sc_goods_many : FnScope n_goods_many ["m", "told"] (defScope s_goods_many) := ⟨rfl, rfl, rfl, by decide +kernel, rfl, by decide +kernel, by decide +kernel⟩
abbrev s_sure_picks : Stmt := topS 24
abbrev n_sure_picks : List Str := ["m", "told", "own", "orders", "lot", "firsts", "order", "area"]
theorem sc_sure_picks : FnScope n_sure_picks ["m", "told"] (defScope s_sure_picks) := ⟨rfl, rfl, rfl, by decide +kernel, rfl, by decide +kernel, by decide +kernel⟩
abbrev s_is_barred : Stmt := topS 25
abbrev n_is_barred : List Str := ["told", "lot", "picked", "own", "area"]
theorem sc_is_barred : FnScope n_is_barred ["told", "lot"] (defScope s_is_barred) := ⟨rfl, rfl, rfl, by decide +kernel, rfl, by decide +kernel, by decide +kernel⟩
abbrev s_bar : Stmt := topS 26
abbrev n_bar : List Str := ["m", "told", "own", "many", "lot"]
theorem sc_bar : FnScope n_bar ["m", "told"] (defScope s_bar) := ⟨rfl, rfl, rfl, by decide +kernel, rfl, by decide +kernel, by decide +kernel⟩
abbrev s_is_bar : Stmt := topS 27
abbrev n_is_bar : List Str := ["told", "thing", "area", "near", "far"]
theorem sc_is_bar : FnScope n_is_bar ["told", "thing"] (defScope s_is_bar) := ⟨rfl, rfl, rfl, by decide +kernel, rfl, by decide +kernel, by decide +kernel⟩
abbrev s_most_left : Stmt := topS 28
abbrev n_most_left : List Str := ["m", "told", "lot", "area"]
theorem sc_most_left : FnScope n_most_left ["m", "told", "lot"] (defScope s_most_left) := ⟨rfl, rfl, rfl, by decide +kernel, rfl, by decide +kernel, by decide +kernel⟩
abbrev s_best_ask : Stmt := topS 29
abbrev n_best_ask : List Str := ["m", "told", "own", "many", "known", "lot"]
theorem sc_best_ask : FnScope n_best_ask ["m", "told"] (defScope s_best_ask) := ⟨rfl, rfl, rfl, by decide +kernel, rfl, by decide +kernel, by decide +kernel⟩
abbrev s_chain_in : Stmt := topS 31
abbrev n_chain_in : List Str := ["rule", "lot", "found", "left", "first", "area"]
theorem sc_chain_in : FnScope n_chain_in ["rule", "lot"] (defScope s_chain_in) := ⟨rfl, rfl, rfl, by decide +kernel, rfl, by decide +kernel, by decide +kernel⟩
abbrev s_chain_of : Stmt := topS 32
abbrev n_chain_of : List Str := ["rule"]
theorem sc_chain_of : FnScope n_chain_of ["rule"] (defScope s_chain_of) := ⟨rfl, rfl, rfl, by decide +kernel, rfl, by decide +kernel, by decide +kernel⟩
abbrev s_width : Stmt := topS 33
abbrev n_width : List Str := ["rule", "own"]
theorem sc_width : FnScope n_width ["rule"] (defScope s_width) := ⟨rfl, rfl, rfl, by decide +kernel, rfl, by decide +kernel, by decide +kernel⟩
abbrev s_law_box : Stmt := topS 35
abbrev n_law_box : List Str := ["_law_script", "_law_k", "_law_cell"]
theorem sc_law_box : FnScope n_law_box ["_law_script", "_law_k"] (defScope s_law_box) := ⟨rfl, rfl, rfl, by decide +kernel, rfl, by decide +kernel, by decide +kernel⟩
abbrev s_law_take : Stmt := topS 36
abbrev n_law_take : List Str := ["_law_urn", "_law_low_so", "_law_drawn", "_law_once", "_law_far", "_law_twice"]
theorem sc_law_take : FnScope n_law_take ["_law_urn", "_law_low_so"] (defScope s_law_take) := ⟨rfl, rfl, rfl, by decide +kernel, rfl, by decide +kernel, by decide +kernel⟩
abbrev s_law_cells : Stmt := topS 37
abbrev n_law_cells : List Str := ["_law_script", "_law_top", "_law_cells_here", "_law_k", "_law_cell", "_law_at_so"]
theorem sc_law_cells : FnScope n_law_cells ["_law_script", "_law_top"] (defScope s_law_cells) := ⟨rfl, rfl, rfl, by decide +kernel, rfl, by decide +kernel, by decide +kernel⟩
abbrev s_law_of : Stmt := topS 38
abbrev n_law_of : List Str := ["_law_urn", "_law_goods"]
theorem sc_law_of : FnScope n_law_of ["_law_urn", "_law_goods"] (defScope s_law_of) := ⟨rfl, rfl, rfl, by decide +kernel, rfl, by decide +kernel, by decide +kernel⟩
abbrev s_law_same : Stmt := topS 39
abbrev n_law_same : List Str := ["_law_got", "_law_goal", "_law_mine_so", "_law_own"]
theorem sc_law_same : FnScope n_law_same ["_law_got", "_law_goal"] (defScope s_law_same) := ⟨rfl, rfl, rfl, by decide +kernel, rfl, by decide +kernel, by decide +kernel⟩
abbrev s_law_lists : Stmt := topS 40
abbrev n_law_lists : List Str := ["_law_matter", "_law_own"]
theorem sc_law_lists : FnScope n_law_lists ["_law_matter"] (defScope s_law_lists) := ⟨rfl, rfl, rfl, by decide +kernel, rfl, by decide +kernel, by decide +kernel⟩
abbrev s_law_lots : Stmt := topS 41
abbrev n_law_lots : List Str := ["_law_m", "_law_least", "_law_found", "_law_area", "_law_own"]
theorem sc_law_lots : FnScope n_law_lots ["_law_m", "_law_least"] (defScope s_law_lots) := ⟨rfl, rfl, rfl, by decide +kernel, rfl, by decide +kernel, by decide +kernel⟩
abbrev s_law_heard : Stmt := topS 42
abbrev n_law_heard : List Str := ["_law_door", "_law_m", "_law_told_here", "_law_goods"]
theorem sc_law_heard : FnScope n_law_heard ["_law_door", "_law_m", "_law_told_here"] (defScope s_law_heard) := ⟨rfl, rfl, rfl, by decide +kernel, rfl, by decide +kernel, by decide +kernel⟩
abbrev s_law_by_hand_right : Stmt := topS 43
abbrev n_law_by_hand_right : List Str := ["_law_one", "_law_two", "_law_ring", "_law_got", "_law_own", "_law_due"]
theorem sc_law_by_hand_right : FnScope n_law_by_hand_right [] (defScope s_law_by_hand_right) := ⟨rfl, rfl, rfl, by decide +kernel, rfl, by decide +kernel, by decide +kernel⟩
abbrev s_law_orders : Stmt := topS 44
abbrev n_law_orders : List Str := ["_law_m", "_law_found", "_law_lap", "_law_longer", "_law_own", "_law_area"]
theorem sc_law_orders : FnScope n_law_orders ["_law_m"] (defScope s_law_orders) := ⟨rfl, rfl, rfl, by decide +kernel, rfl, by decide +kernel, by decide +kernel⟩
abbrev s_law_first : Stmt := topS 45
abbrev n_law_first : List Str := ["_law_order", "_law_lot", "_law_area"]
theorem sc_law_first : FnScope n_law_first ["_law_order", "_law_lot"] (defScope s_law_first) := ⟨rfl, rfl, rfl, by decide +kernel, rfl, by decide +kernel, by decide +kernel⟩
abbrev s_law_all_rules : Stmt := topS 46
abbrev n_law_all_rules : List Str := ["_law_m", "_law_found", "_law_lot", "_law_longer", "_law_own", "_law_area"]
theorem sc_law_all_rules : FnScope n_law_all_rules ["_law_m"] (defScope s_law_all_rules) := ⟨rfl, rfl, rfl, by decide +kernel, rfl, by decide +kernel, by decide +kernel⟩
abbrev s_law_goes : Stmt := topS 47
abbrev n_law_goes : List Str := ["_law_rule", "_law_order", "_law_lot", "_law_own"]
theorem sc_law_goes : FnScope n_law_goes ["_law_rule", "_law_order"] (defScope s_law_goes) := ⟨rfl, rfl, rfl, by decide +kernel, rfl, by decide +kernel, by decide +kernel⟩
abbrev s_law_bars : Stmt := topS 48
abbrev n_law_bars : List Str := ["_law_m", "_law_told_here", "_law_found", "_law_whole", "_law_picked", "_law_lot", "_law_area", "_law_own"]
theorem sc_law_bars : FnScope n_law_bars ["_law_m", "_law_told_here"] (defScope s_law_bars) := ⟨rfl, rfl, rfl, by decide +kernel, rfl, by decide +kernel, by decide +kernel⟩
abbrev s_law_told : Stmt := topS 49
abbrev n_law_told : List Str := ["_law_urn", "_law_m", "_law_found", "_law_order", "_law_free", "_law_lot", "_law_area"]
theorem sc_law_told : FnScope n_law_told ["_law_urn", "_law_m"] (defScope s_law_told) := ⟨rfl, rfl, rfl, by decide +kernel, rfl, by decide +kernel, by decide +kernel⟩
abbrev s_law_small_right : Stmt := topS 50
abbrev n_law_small_right : List Str := ["_law_m", "_law_told_here", "_law_fine", "_law_own", "_law_lot", "_law_area", "_law_goods", "_law_order", "_law_some", "_law_sure", "_law_asks", "_law_picked", "_law_due", "_law_got"]
theorem sc_law_small_right : FnScope n_law_small_right ["_law_m", "_law_told_here"] (defScope s_law_small_right) := ⟨rfl, rfl, rfl, by decide +kernel, rfl, by decide +kernel, by decide +kernel⟩
abbrev s_law_right : Stmt := topS 51
abbrev n_law_right : List Str := ["_law_urn", "_law_m", "_law_told_here", "_law_total", "_law_orders_here", "_law_order", "_law_lot", "_law_area", "_law_many", "_law_bars_here", "_law_got", "_law_things", "_law_k", "_law_own"]
theorem sc_law_right : FnScope n_law_right ["_law_urn"] (defScope s_law_right) := ⟨rfl, rfl, rfl, by decide +kernel, rfl, by decide +kernel, by decide +kernel⟩
abbrev s_law : Stmt := topS 52
abbrev n_law : List Str := ["_law_script"]
theorem sc_law : FnScope n_law ["_law_script"] (defScope s_law) := ⟨rfl, rfl, rfl, by decide +kernel, rfl, by decide +kernel, by decide +kernel⟩
end GY
namespace GY
open PySem PySem.Spec PyProof.Rows L2
abbrev Lot := List Int
abbrev Told := List (Lot × Int)
/-- a pick told, a rule's row -/
abbrev eP (p : Lot × Int) : PyData := .tuple [dI p.1, .int p.2]
abbrev eR (p : Lot × Int) : PyData := .tuple [dI p.1, dI [p.2]]
theorem kit_ii : kitB "int" "int" = some true := by decide +kernel
theorem kit_ib : kitB "int" "bool" = some false := by decide +kernel
theorem kit_il : kitB "int" "list" = some false := by decide +kernel
theorem kit_it : kitB "int" "tuple" = some false := by decide +kernel
theorem kit_ll : kitB "list" "list" = some true := by decide +kernel
theorem kit_lt : kitB "list" "tuple" = some false := by decide +kernel
theorem kit_tl : kitB "tuple" "list" = some false := by decide +kernel
theorem kit_tt : kitB "tuple" "tuple" = some true := by decide +kernel
theorem no1 {a : PyData} : NoOwn [.pu a] := fun s h => by rw [List.mem_singleton.mp h]; rfl
theorem no2 {a b : PyData} : NoOwn [.pu a, .pu b] := fun s h => by
  rcases List.mem_cons.mp h with z | z
  · rw [z]; rfl
  · rw [List.mem_singleton.mp z]; rfl
theorem filt_true {α : Type} (xs : List α) : (xs.filter fun _ => true) = xs := List.filter_eq_self.mpr fun _ _ => rfl
theorem pts0 {X : Cx} {B : Bs} {ρ : List Sl} : PTs X [] (tT X.w B ρ true) := weakTs pts_nil fun σ H Q ⟨F, a, k⟩ => k F H (Gr.refl a.fh)
theorem atI_head {ds : List PyData} {d : PyData} (h : ds.head? = some d) : L2.atI ds 0 = some d := by
  cases ds with
  | nil => cases h
  | cons x xs =>
    unfold L2.atI
    have : ixN (x :: xs).length 0 = some 0 := by unfold ixN; simp
    rw [this]
    exact h

/-! ## is_number, first_in, lies_in, tuple_of -/
def Sp_is_number (ss : List Sl) (s : Sl) : Prop := ∃ i, ss = [.pu (.int i)] ∧ s = .pu (.bool true)
def firstIn (o l : List Int) : Option Int := (o.filter fun x => decide (x ∈ l)).head?
def Sp_first_in (ss : List Sl) (s : Sl) : Prop := ∃ (o l : List Int) (a : Int), ss = [.pu (dI o), .pu (dI l)] ∧ o.length ≤ 100 ∧ firstIn o l = some a ∧ s = .pu (.int a)
def liesIn (l : Lot) (ls : List Lot) : Bool := (ls.map fun o => (l.map fun a => decide (a ∈ o)).all id).any id
def Sp_lies_in (ss : List Sl) (s : Sl) : Prop := ∃ (l : Lot) (ls : List Lot), ss = [.pu (dI l), .pu (.tuple (ls.map dI))] ∧ l.length ≤ 100 ∧ ls.length ≤ 100 ∧ s = .pu (.bool (liesIn l ls))
/-- tuple_of d = r, lists and tuples n deep -/
def TO : Nat → PyData → PyData → Prop
  | 0, d, r => ∃ i, d = .int i ∧ r = .int i
  | n + 1, d, r => (∃ i, d = .int i ∧ r = .int i) ∨ ∃ ds rs, isSeq d ds ∧ r = .tuple rs ∧ ds.length ≤ 1000 ∧ Paired (TO n) ds rs
def nk : List PyData → Bool
  | [] => true
  | .tuple _ :: _ => true
  | _ => false
theorem nk_NK {ds : List PyData} (h : nk ds = true) : NK ds := by
  unfold nk at h
  split at h
  · trivial
  · trivial
  · cases h
def slT (r : PyData) : Sl := match r with
  | .tuple rs => if nk rs = true then .pu (xD rs) else .pu (.tuple rs)
  | d => .pu d
def Sp_tuple_of (n : Nat) (ss : List Sl) (s : Sl) : Prop := ∃ d r, ss = [.pu d] ∧ TO n d r ∧ s = slT r
theorem slT_x {rs : List PyData} (h : nk rs = true) : slT (.tuple rs) = .pu (xD rs) := if_pos h
theorem slT_t {rs : List PyData} (h : ¬ nk rs = true) : slT (.tuple rs) = .pu (.tuple rs) := if_neg h
theorem slT_pu {X : Cx} {B : Bs} {ρ : List Sl} {e : Expr} {r : PyData} (h : PE X e (tV X.w B ρ (slT r))) : PE X e (tV X.w B ρ (.pu r)) := by
  unfold slT at h
  split at h
  · split at h
    · exact dwh h (nk_NK (by assumption))
    · exact h
  · exact h
theorem slT_own (r : PyData) : (slT r).own = false := by
  unfold slT
  split
  · split <;> rfl
  · rfl
theorem paired_zip {α β : Type} {R : α → β → Prop} : ∀ {l : List α} {m : List β}, Paired R l m → ∃ ps : List (α × β), l = ps.map Prod.fst ∧ m = ps.map Prod.snd ∧ ∀ p ∈ ps, R p.1 p.2
  | _, _, .nil => ⟨[], rfl, rfl, fun _ h => nomatch h⟩
  | _, _, .cons (a := a) (b := b) h t => by
    obtain ⟨ps, e1, e2, h3⟩ := paired_zip t
    exact ⟨(a, b) :: ps, by rw [e1]; rfl, by rw [e2]; rfl, fun p hp => by
      rcases List.mem_cons.mp hp with z | z
      · rw [z]; exact h
      · exact h3 p z⟩
section
variable {P : Program} {w : World} {K : PySem.W.Frag} {mg : Str → Option Value} {base : Heap} {f : Addr} {fd : FuncData} {k : Nat}
theorem ok_is_number (M : Mg mg) (F : Fun K "is_number" "is_number" s_is_number f fd) : FnOk P w K mg base CX0 (k + 1) f fd ["thing"] (spS w Sp_is_number) := by
  refine okD F sc_is_number (fun ss s ⟨i, e, _⟩ => by rw [e]; exact ⟨rfl, no1⟩) (fun cdv A outer sh H E B ss s hr ⟨i, e, es⟩ => ?_)
  subst e es
  exact hs_one (hs_ret (dN (dand2 (disi (d := .int i) M.isinstance_ (dvar 0) M.int_ boot_int' (c := true) kit_ii) fun _ => done1 (dnot (disi (d := .int i) M.isinstance_ (dvar 0) M.bool_ boot_bool' (c := false) kit_ib)))) rfl)
theorem ok_first_in (F : Fun K "first_in" "first_in" s_first_in f fd) : FnOk P w K mg base CX0 (k + 1) f fd ["order", "lot"] (spS w Sp_first_in) := by
  refine okD F sc_first_in (fun ss s ⟨o, l, a, e, _⟩ => by rw [e]; exact ⟨rfl, no2⟩) (fun cdv A outer sh H E B ss s hr ⟨o, l, a, e, ho, ha, es⟩ => ?_)
  subst e es
  refine hs_one (hs_ret (dN (dixd (dfz (dlc1 2 PyData.int (fun x => decide (x ∈ l)) (fun x => .int x) sc_first_in.nd (iseq (dvar 0)) (fun x hx => pts_one (tC (cin (dvar 2) (dvar 1)))) (fun x hx hf => dvar 2) (by omega))) dint ?_)) rfl)
  refine atI_head ?_
  unfold firstIn at ha
  rw [List.head?_map, ha]
  rfl
theorem ok_lies_in (M : Mg mg) (F : Fun K "lies_in" "lies_in" s_lies_in f fd) : FnOk P w K mg base CX0 (k + 1) f fd ["lot", "lots"] (spS w Sp_lies_in) := by
  refine okD F sc_lies_in (fun ss s ⟨l, ls, e, _⟩ => by rw [e]; exact ⟨rfl, no2⟩) (fun cdv A outer sh H E B ss s hr ⟨l, ls, e, hl, hls, es⟩ => ?_)
  subst e es
  refine hs_one (hs_ret (dN (dany rfl M.any_ (bs := ls.map fun o => (l.map fun a => decide (a ∈ o)).all id) (deqT (dfz (dlc1 3 dI (fun _ => true) (fun o => .bool ((l.map fun a => decide (a ∈ o)).all id)) sc_lies_in.nd (iseq (dvar 1)) (fun x hx => pts0) (fun o ho _ =>
    dall rfl M.all_ (bs := l.map fun a => decide (a ∈ o)) (deqT (dfz (dlc1 2 PyData.int (fun _ => true) (fun a => .bool (decide (a ∈ o))) sc_lies_in.nd (iseq (dvar 0)) (fun x hx => pts0) (fun a ha _ => dC (cin (dvar 2) (dvar 3))) (by omega))) (by rw [filt_true, List.map_map]; rfl))) (by omega))) (by rw [filt_true, List.map_map]; rfl)))) rfl)
theorem ok_tuple_of (M : Mg mg) (hm : mg "tuple_of" = some (.ref f)) (hk : PySem.W.keepIn K (.ref f) = true) (hb : Binds K fd ["thing"] []) (F : Fun K "tuple_of" "tuple_of" s_tuple_of f fd) : ∀ n, FnOk P w K mg base CX0 (n + 1) f fd ["thing"] (spS w (Sp_tuple_of n)) := by
  intro n
  induction n with
  | zero =>
    refine okD F sc_tuple_of (fun ss s ⟨d, r, e, _⟩ => by rw [e]; exact ⟨rfl, no1⟩) (fun cdv A outer sh H E B ss s hr ⟨d, r, e, ⟨i, ed, er⟩, es⟩ => ?_)
    subst e es ed er
    refine hs_then (hs_if (tcmp (disi2 (d := .int i) M.isinstance_ (dvar 0) M.list_ boot_list' M.tuple_ boot_tuple' kit_il kit_it)) (fun z => by cases z) fun _ => hs_nil) (hs_one (hs_ret (dN (dvar 0)) rfl))
  | succ n ih =>
    have G : Cal P w K mg base CX0 (n + 1) "tuple_of" ["thing"] (spS w (Sp_tuple_of n)) := ⟨f, fd, hm, hk, hb, ih⟩
    refine okD F sc_tuple_of (fun ss s ⟨d, r, e, _⟩ => by rw [e]; exact ⟨rfl, no1⟩) (fun cdv A outer sh H E B ss s hr ⟨d, r, e, h, es⟩ => ?_)
    subst e es
    rcases h with ⟨i, ed, er⟩ | ⟨ds, rs, hd, er, hl, hp⟩
    · subst ed er
      exact hs_then (hs_if (tcmp (disi2 (d := .int i) M.isinstance_ (dvar 0) M.list_ boot_list' M.tuple_ boot_tuple' kit_il kit_it)) (fun z => by cases z) fun _ => hs_nil) (hs_one (hs_ret (dN (dvar 0)) rfl))
    · subst er
      obtain ⟨ps, e1, e2, h3⟩ := paired_zip hp
      subst e1 e2
      have hlen : ps.length ≤ 1000 := by simpa using hl
      have hlen' : (ps.map Prod.snd).length ≤ 1000 := by simpa using hl
      have body : ∀ (c : Bool) (c2 : Bool) (hcc : (c || c2) = true), kitB (tyName d) "list" = some c → kitB (tyName d) "tuple" = some c2 → PSs (cxOf CX0 P w K mg base n_tuple_of "tuple_of" (defScope s_tuple_of) f cdv A outer sh H E).nox (defBody s_tuple_of) (tH w B (atN n_tuple_of [.pu d]) (fun _ => False) (fun s' _ => s' = slT (.tuple (ps.map Prod.snd)))) := by
        intro c c2 hcc k1 k2
        refine hs_cons (M := fun _ => False) (hs_if (tcmp (disi2 (d := d) M.isinstance_ (dvar 0) M.list_ boot_list' M.tuple_ boot_tuple' k1 k2)) (fun _ => ?_) fun z => by rw [hcc] at z; cases z) fun _ z => z.elim
        by_cases hnk : nk (ps.map Prod.snd) = true
        · exact hs_one (hs_ret (s := .pu (xD (ps.map Prod.snd))) (dN (dtupleX M.tuple_ (s0 := .pu (.list (ps.map Prod.snd))) (deqT (dfz (dlc1 (α := PyData × PyData) 1 Prod.fst (fun _ => true) Prod.snd sc_tuple_of.nd (iseq (dvar 0) hd) (fun x hx => pts0) (fun p hpp _ =>
              slT_pu (dV (dcall (s := slT p.2) G hr (acons (dvar 1) anil) ⟨p.1, p.2, rfl, h3 p hpp, rfl⟩))) hlen)) (by rw [filt_true])) (hl := hlen'))) (slT_x hnk).symm)
        · exact hs_one (hs_ret (s := .pu (.tuple (ps.map Prod.snd))) (dN (dtuple M.tuple_ (deqT (dfz (dlc1 (α := PyData × PyData) 1 Prod.fst (fun _ => true) Prod.snd sc_tuple_of.nd (iseq (dvar 0) hd) (fun x hx => pts0) (fun p hpp _ =>
              slT_pu (dV (dcall (s := slT p.2) G hr (acons (dvar 1) anil) ⟨p.1, p.2, rfl, h3 p hpp, rfl⟩))) hlen)) (by rw [filt_true])))) (slT_t hnk).symm)
      rcases hd with hd | hd
      · subst hd; exact body true false rfl kit_ll kit_lt
      · subst hd; exact body false true rfl kit_tl kit_tt
end
end GY
namespace GY
open PySem PySem.Spec PyProof.Rows L2 PySem.W

/-! ## data of ints: depth, likeness, order -/
theorem dep_ints : ∀ l : List Int, PyData.depthAll (l.map .int) = 0
  | [] => rfl
  | x :: l => by rw [List.map_cons, PyData.depthAll, dep_ints l]; rfl
theorem dep_dI (l : Lot) : (dI l).depth = 1 := by rw [PyData.depth, dep_ints]
theorem nol_ints : ∀ l : List Int, noList.noLists (l.map .int) = true
  | [] => rfl
  | x :: l => by rw [List.map_cons, noList.noLists, nol_ints l]; rfl
theorem nol_dI (l : Lot) : noList (dI l) = true := by rw [noList, nol_ints]
theorem alike_ints : ∀ a b : List Int, alikeAll (a.map .int) (b.map .int) = true
  | [], _ => by rw [List.map_nil, alikeAll]
  | _ :: _, [] => by rw [List.map_cons, List.map_nil, alikeAll]
  | x :: a, y :: b => by rw [List.map_cons, List.map_cons, alikeAll, alike_ints a b, alike]; rfl
theorem alike_dI (a b : Lot) : alike (dI a) (dI b) = true := by rw [alike, alike_ints]
theorem alike_eP (p q : Lot × Int) : alike (eP p) (eP q) = true := by
  rw [alike, alikeAll, alikeAll, alikeAll, alike_dI, alike]; rfl
theorem eqv_ints : ∀ a b : List Int, PyData.eqvAll (a.map .int) (b.map .int) = decide (a = b)
  | [], [] => rfl
  | [], _ :: _ => rfl
  | _ :: _, [] => rfl
  | x :: a, y :: b => by
    rw [List.map_cons, List.map_cons, PyData.eqvAll, eqv_ints a b]
    show (PyData.eqv (.int x) (.int y) && decide (a = b)) = decide (x :: a = y :: b)
    have : PyData.eqv (.int x) (.int y) = decide (x = y) := by
      first | rfl | (rw [PyData.eqv]; first | rfl | (by_cases h : x = y <;> simp [h]))
    rw [this]
    by_cases h1 : x = y <;> by_cases h2 : a = b <;> simp [h1, h2]
theorem eqv_dI (a b : Lot) : PyData.eqv (dI a) (dI b) = decide (a = b) := by rw [PyData.eqv, eqv_ints]
theorem lt_ne {a b : Lot} (h : dataLt (dI a) (dI b) = true) : a ≠ b := fun z => by
  subst z
  have := (listOrd itemOrd).irrefl (keyToks (dI a))
  rw [show (listOrd itemOrd).blt (keyToks (dI a)) (keyToks (dI a)) = dataLt (dI a) (dI a) from rfl, h] at this
  cases this
theorem lt_eP {p q : Lot × Int} (h : dataLt (dI p.1) (dI q.1) = true) : dataLt (eP p) (eP q) = true := by
  rw [dataLt_tuple, dataLt_all_no (alike_dI _ _) (by rw [eqv_dI]; exact decide_eq_false (lt_ne h))]
  exact h
theorem dep_eP (p : Lot × Int) : (eP p).depth = 2 := by
  rw [PyData.depth, PyData.depthAll, PyData.depthAll, PyData.depthAll, dep_dI]; rfl
theorem nols_map {α : Type} {f : α → PyData} (h : ∀ a, noList (f a) = true) : ∀ l : List α, noList.noLists (l.map f) = true
  | [] => rfl
  | x :: l => by rw [List.map_cons, noList.noLists, h, nols_map h l]; rfl
theorem nol_eP (p : Lot × Int) : noList (eP p) = true := by
  rw [noList, noList.noLists, noList.noLists, noList.noLists, nol_dI]; rfl
/-- sorted: picks told, by their lots -/
theorem so_told {t es : Told} (hp : es.Perm t) (hs : es.Pairwise fun p q => dataLt (dI p.1) (dI q.1) = true) (hl : t.length ≤ 1000) : SortOk (t.map eP) (es.map eP) where
  nl := nols_map nol_eP t
  al := fun d hd d' hd' => by
    obtain ⟨p, _, rfl⟩ := List.mem_map.mp hd
    obtain ⟨q, _, rfl⟩ := List.mem_map.mp hd'
    exact alike_eP p q
  so := .inl fun d hd => by
    obtain ⟨p, _, rfl⟩ := List.mem_map.mp hd
    exact ⟨_, _, rfl⟩
  dep := fun d hd => by
    obtain ⟨p, _, rfl⟩ := List.mem_map.mp hd
    rw [dep_eP]; decide
  len := by rw [List.length_map]; exact hl
  perm := hp.map _
  lt := List.pairwise_map.mpr (hs.imp fun h => lt_eP h)
/-- sorted: lots -/
theorem so_lots {t es : List Lot} (hp : es.Perm t) (hs : es.Pairwise fun p q => dataLt (dI p) (dI q) = true) (hl : t.length ≤ 1000) (hne : ∀ l ∈ t, l ≠ []) : SortOk (t.map dI) (es.map dI) where
  nl := nols_map nol_dI t
  al := fun d hd d' hd' => by
    obtain ⟨p, _, rfl⟩ := List.mem_map.mp hd
    obtain ⟨q, _, rfl⟩ := List.mem_map.mp hd'
    exact alike_dI p q
  so := .inl fun d hd => by
    obtain ⟨p, hp', rfl⟩ := List.mem_map.mp hd
    cases h : p with
    | nil => exact absurd h (hne p hp')
    | cons x r => exact ⟨_, _, rfl⟩
  dep := fun d hd => by
    obtain ⟨p, _, rfl⟩ := List.mem_map.mp hd
    rw [dep_dI]; decide
  len := by rw [List.length_map]; exact hl
  perm := hp.map _
  lt := List.pairwise_map.mpr (hs.imp fun h => h)
/-- sorted: ints -/
theorem so_ints {t es : List Int} (hp : es.Perm t) (hs : es.Pairwise fun p q => p < q) (hl : t.length ≤ 1000) : SortOk (t.map .int) (es.map .int) where
  nl := nol_ints t
  al := fun d hd d' hd' => by
    obtain ⟨p, _, rfl⟩ := List.mem_map.mp hd
    obtain ⟨q, _, rfl⟩ := List.mem_map.mp hd'
    rw [alike]
  so := .inr fun d hd => by
    obtain ⟨p, _, rfl⟩ := List.mem_map.mp hd
    exact ⟨fun z => (by cases z), fun _ z => (by cases z)⟩
  dep := fun d hd => by
    obtain ⟨p, _, rfl⟩ := List.mem_map.mp hd
    show PyData.depth (.int p) ≤ 50
    rw [PyData.depth]; decide
  len := by rw [List.length_map]; exact hl
  perm := hp.map _
  lt := List.pairwise_map.mpr (hs.imp fun h => by rw [dataLt_int]; exact decide_eq_true h)
/-- a number and a lot -/
abbrev eN (p : Int × Lot) : PyData := .tuple [.int p.1, dI p.2]
theorem alike_eN (p q : Int × Lot) : alike (eN p) (eN q) = true := by
  rw [alike, alikeAll, alikeAll, alikeAll, alike_dI, alike]; rfl
theorem nol_eN (p : Int × Lot) : noList (eN p) = true := by
  rw [noList, noList.noLists, noList.noLists, noList.noLists, nol_dI]; rfl
theorem dep_eN (p : Int × Lot) : (eN p).depth = 2 := by
  rw [PyData.depth, PyData.depthAll, PyData.depthAll, PyData.depthAll, dep_dI]; rfl
theorem so_eN {t es : List (Int × Lot)} (hp : es.Perm t) (hs : es.Pairwise fun p q => dataLt (eN p) (eN q) = true) (hl : t.length ≤ 1000) : SortOk (t.map eN) (es.map eN) where
  nl := nols_map nol_eN t
  al := fun d hd d' hd' => by
    obtain ⟨p, _, rfl⟩ := List.mem_map.mp hd
    obtain ⟨q, _, rfl⟩ := List.mem_map.mp hd'
    exact alike_eN p q
  so := .inl fun d hd => by
    obtain ⟨p, _, rfl⟩ := List.mem_map.mp hd
    exact ⟨_, _, rfl⟩
  dep := fun d hd => by
    obtain ⟨p, _, rfl⟩ := List.mem_map.mp hd
    rw [dep_eN]; decide
  len := by rw [List.length_map]; exact hl
  perm := hp.map _
  lt := List.pairwise_map.mpr (hs.imp fun h => h)
theorem al_eN (t : List (Int × Lot)) : AlikeAll (t.map eN) := ⟨fun d hd d' hd' => by
    obtain ⟨p, _, rfl⟩ := List.mem_map.mp hd
    obtain ⟨q, _, rfl⟩ := List.mem_map.mp hd'
    exact alike_eN p q, fun d hd z => by
    obtain ⟨p, _, rfl⟩ := List.mem_map.mp hd
    cases z⟩
end GY
namespace GY
open PySem PySem.Spec PyProof.Rows L2
/-! ## loops over names, by states -/
section
variable {X : Cx} {e a b o i : Expr} {pos pos2 : Pos} {B : Bs} {ρ ρ' : List Sl} {s s1 s2 : Sl} {d : PyData} {ds es : List PyData} {R : Sl → List Sl → Prop}
theorem deqN (h : PE X e (tN X.w B ρ s)) (q : s = s1) : PE X e (tN X.w B ρ s1) := by rw [← q]; exact h
theorem deqW {c c2 : Bool} (h : PW X e (tT X.w B ρ c)) (q : c = c2) : PW X e (tT X.w B ρ c2) := by rw [← q]; exact h
theorem deqP {c c2 : Bool} (h : PT X e (tT X.w B ρ c)) (q : c = c2) : PT X e (tT X.w B ρ c2) := by rw [← q]; exact h
theorem Up.to {P : List Sl → Prop} {ρ ρ' : List Sl} (h : Fgt ρ ρ') (p : P ρ') : Up P ρ := ⟨ρ', h, p⟩
theorem hs_for1 (i : Nat) (st : Nat → List Sl) {x : Str} {px : Pos} {iter : Expr} {body : List Stmt} (nd : X.N.Nodup) (hp : PassesOwn (model X.prog X.w) X.A X.env X.xe) (hi : PI X (.Name x px) iter (tI X.w B ρ ds)) (h0 : ρ = st 0)
    (hbody : ∀ j d, ds[j]? = some d → PSs X body (tH X.w B ((st j).set i (.pu d)) (Up (· = st (j + 1))) R)) (hj : X.N[i]? = some x := by rfl) (hx : Loc X.env.scope x := by first | exact Or.inl rfl | exact Or.inr rfl)
    (fx : X.fn x = true ∨ X.env.scope.names.lookup x = some .local := by first | exact .inl rfl | exact .inr rfl) (hc : X.calm = true := by rfl) (hs : ∀ x, foldedSetIterable iter X.env x = pure x := by intro _; rfl) :
    PS X (.For (.Name x px) iter body [] pos) (tH X.w B ρ (· = st ds.length) R) :=
  hs_for (P := fun j ρ => ρ = st j) (ρb := fun _ d ρ => ρ.set i (.pu d)) (js := [i]) hp hc hi (pg_name nd hj hx fx) h0 (fun _ _ _ _ _ => bd1 i) (fun j d ρ hd e => by subst e; exact hbody j d hd) hs
theorem hs_for2 {α : Type} (i k : Nat) (st : Nat → List Sl) (emb e1 e2 : α → PyData) {xs : List α} {x y : Str} {px py tp : Pos} {kk : Nat} {iter : Expr} {body : List Stmt} (nd : X.N.Nodup) (hp : PassesOwn (model X.prog X.w) X.A X.env X.xe) (hi : PI X (.Tuple [.Name x px, .Name y py] kk tp) iter (tI X.w B ρ (xs.map emb))) (hq : ∀ a ∈ xs, emb a = .tuple [e1 a, e2 a]) (h0 : ρ = st 0)
    (hbody : ∀ j a, xs[j]? = some a → PSs X body (tH X.w B (((st j).set i (.pu (e1 a))).set k (.pu (e2 a))) (Up (· = st (j + 1))) R)) (hj : X.N[i]? = some x := by rfl) (hx : Loc X.env.scope x := by first | exact Or.inl rfl | exact Or.inr rfl)
    (fx : X.fn x = true ∨ X.env.scope.names.lookup x = some .local := by first | exact .inl rfl | exact .inr rfl) (hk : X.N[k]? = some y := by rfl) (hy : Loc X.env.scope y := by first | exact Or.inl rfl | exact Or.inr rfl)
    (fy : X.fn y = true ∨ X.env.scope.names.lookup y = some .local := by first | exact .inl rfl | exact .inr rfl) (hc : X.calm = true := by rfl) (hpg : ∀ {t : TGs}, PGs X [.Name x px, .Name y py] t → PG X (.Tuple [.Name x px, .Name y py] kk tp) (gTup X.K 2 t) := by intro _ h; exact pg_tup rfl h) (hs : ∀ x, foldedSetIterable iter X.env x = pure x := by intro _; rfl) :
    PS X (.For (.Tuple [.Name x px, .Name y py] kk tp) iter body [] pos) (tH X.w B ρ (· = st xs.length) R) := by
  have h := hs_for (P := fun j ρ => ρ = st j) (ρb := fun _ d ρ => match d with | .tuple [d1, d2] => (ρ.set i (.pu d1)).set k (.pu d2) | _ => ρ) (js := [i, k]) (R := R) (body := body) (pos := pos) hp hc hi (hpg (pgs_cons (pg_name nd hj hx fx) (pgs_cons (pg_name nd hk hy fy) pgs_nil))) h0 (fun j d ρ hd _ => by
    rw [List.getElem?_map] at hd
    cases h : xs[j]? with
    | none => rw [h] at hd; cases hd
    | some a =>
      rw [h] at hd
      cases hd
      rw [hq a (List.mem_of_getElem? h)]
      exact bd2 i k) (fun j d ρ hd e => by
    subst e
    rw [List.getElem?_map] at hd
    cases h : xs[j]? with
    | none => rw [h] at hd; cases hd
    | some a =>
      rw [h] at hd
      cases hd
      rw [hq a (List.mem_of_getElem? h)]
      exact hbody j a h) hs
  rw [List.length_map] at h
  exact h
theorem hs_forT {α : Type} (i : Nat) (emb : α → PyData) (st : Nat → List Sl) {xs : List α} {x : Str} {px : Pos} {iter : Expr} {body : List Stmt} (nd : X.N.Nodup) (hp : PassesOwn (model X.prog X.w) X.A X.env X.xe) (hi : PI X (.Name x px) iter (tI X.w B ρ (xs.map emb))) (h0 : ρ = st 0)
    (hbody : ∀ j a, xs[j]? = some a → PSs X body (tH X.w B ((st j).set i (.pu (emb a))) (Up (· = st (j + 1))) R)) (hj : X.N[i]? = some x := by rfl) (hx : Loc X.env.scope x := by first | exact Or.inl rfl | exact Or.inr rfl)
    (fx : X.fn x = true ∨ X.env.scope.names.lookup x = some .local := by first | exact .inl rfl | exact .inr rfl) (hc : X.calm = true := by rfl) (hs : ∀ x, foldedSetIterable iter X.env x = pure x := by intro _; rfl) :
    PS X (.For (.Name x px) iter body [] pos) (tH X.w B ρ (· = st xs.length) R) := by
  have h := hs_for1 (R := R) (body := body) (pos := pos) i st nd hp hi h0 (fun j d hd => by
    rw [List.getElem?_map] at hd
    cases h : xs[j]? with
    | none => rw [h] at hd; cases hd
    | some a =>
      rw [h] at hd
      cases hd
      exact hbody j a h) hj hx fx hc hs
  rw [List.length_map] at h
  exact h
/-- tuple(xs) of ints, for a key -/
theorem dtupleK {k : List Int} {p : Pos} (hm : X.mg "tuple" = none) (h : PE X e (tV X.w B ρ (.pu (.list (k.map .int))))) (hg : Gl X "tuple" := by rfl) (he : starEach (e :: []) X.env = (false, eval e X.env) :: starEach [] X.env := by rfl) (hpl : (backTo pos (starEach [] X.env)).any (·.1) = false := by rfl) :
    PE X (.Call (.Name "tuple" p) [e] [] pos) (tV X.w B ρ (.kt k)) :=
  dV (dbty call_tuple_of hm boot_tuple' (acons h anil he) (fun vs F H Q f o q => by
    obtain ⟨v, ev, ov⟩ := o.one
    obtain ⟨l, xs, ex, hq, r⟩ := Rp.list_inv ov
    exact ⟨l, xs, by rw [ev, ex], .inl ⟨SqL.of (f _ _ hq), fun t ht => q _ _ _ (Gr.new f ht) ⟨t, rfl, by rw [upd_same, r.ints, keyV]⟩ (fun _ z => by cases z)⟩⟩) hg (by decide) (by decide) he hpl)
/-- with a plain invariant -/
theorem hs_forC {α : Type} (i : Nat) (emb : α → PyData) (st : Nat → List Sl) (C : Nat → Prop) {xs : List α} {x : Str} {px : Pos} {iter : Expr} {body : List Stmt} (nd : X.N.Nodup) (hp : PassesOwn (model X.prog X.w) X.A X.env X.xe) (hi : PI X (.Name x px) iter (tI X.w B ρ (xs.map emb))) (h0 : ρ = st 0) (hC : C 0)
    (hbody : ∀ j a, xs[j]? = some a → C j → PSs X body (tH X.w B ((st j).set i (.pu (emb a))) (Up fun ρ => ρ = st (j + 1) ∧ C (j + 1)) R)) (hj : X.N[i]? = some x := by rfl) (hx : Loc X.env.scope x := by first | exact Or.inl rfl | exact Or.inr rfl)
    (fx : X.fn x = true ∨ X.env.scope.names.lookup x = some .local := by first | exact .inl rfl | exact .inr rfl) (hc : X.calm = true := by rfl) (hs : ∀ x, foldedSetIterable iter X.env x = pure x := by intro _; rfl) :
    PS X (.For (.Name x px) iter body [] pos) (tH X.w B ρ (fun ρ => ρ = st xs.length ∧ C xs.length) R) := by
  have h := hs_for (P := fun j ρ => ρ = st j ∧ C j) (ρb := fun _ d ρ => ρ.set i (.pu d)) (js := [i]) (R := R) (body := body) (pos := pos) hp hc hi (pg_name nd hj hx fx) ⟨h0, hC⟩ (fun _ _ _ _ _ => bd1 i) (fun j d ρ hd ⟨e, c⟩ => by
    subst e
    rw [List.getElem?_map] at hd
    cases h : xs[j]? with
    | none => rw [h] at hd; cases hd
    | some a =>
      rw [h] at hd
      cases hd
      exact hbody j a h c) hs
  rw [List.length_map] at h
  exact h
end
end GY
namespace GY
open PySem PySem.Spec PyProof.Rows L2 PySem.W

/-! ## lots_of, orders_told -/
/-- the lots of m areas, in order -/
def lotsL : Nat → List Lot
  | 2 => [[0, 1]]
  | 3 => [[0, 1], [0, 1, 2], [0, 2], [1, 2]]
  | 4 => [[0, 1], [0, 1, 2], [0, 1, 2, 3], [0, 1, 3], [0, 2], [0, 2, 3], [0, 3], [1, 2], [1, 2, 3], [1, 3], [2, 3]]
  | _ => []
def M234 (n : Nat) : Prop := n ∈ [2, 3, 4]
/-- .. by their sizes -/
def bySize (n i : Nat) : List (List Nat) := (List.range i).flatMap fun j => coL n (2 + j)
theorem bySize_lots : ∀ n ∈ [2, 3, 4], ((lotsL n).Perm ((bySize n (n - 1)).map nI)) := by
  intro n hn
  have : n = 2 ∨ n = 3 ∨ n = 4 := by simpa using hn
  rcases this with rfl | rfl | rfl <;> decide +kernel
theorem lots_sorted : ∀ n ∈ [2, 3, 4], (lotsL n).Pairwise fun p q => dataLt (dI p) (dI q) = true := by
  intro n hn
  have : n = 2 ∨ n = 3 ∨ n = 4 := by simpa using hn
  rcases this with rfl | rfl | rfl <;> decide +kernel
theorem bySize_small : ∀ n ∈ [2, 3, 4], (∀ i ∈ List.range n, (bySize n i).length + (coL n (2 + i)).length < 1000) ∧ ∀ l ∈ (bySize n (n - 1)).map nI, l ≠ [] := by decide +kernel
def Sp_lots_of (ss : List Sl) (s : Sl) : Prop := ∃ n : Nat, n ∈ [2, 3, 4] ∧ ss = [.pu (.int n)] ∧ s = .ol ((lotsL n).map dI)
theorem rng_at {lo : Int} {n i : Nat} {d : PyData} (h : ((rng lo n).map PyData.int)[i]? = some d) : i < n ∧ d = .int (lo + (i : Int)) := by
  rw [List.getElem?_map] at h
  cases e : (rng lo n)[i]? with
  | none => rw [e] at h; cases h
  | some y =>
    rw [e] at h
    cases h
    have hl := (List.getElem?_eq_some_iff.mp e).1
    rw [rng_length] at hl
    exact ⟨hl, by rw [rng_get e]⟩
theorem rng_len (lo : Int) (n : Nat) : ((rng lo n).map PyData.int).length = n := by rw [List.length_map, rng_length]
section
variable {P : Program} {w : World} {K : PySem.W.Frag} {mg : Str → Option Value} {base : Heap} {f : Addr} {fd : FuncData} {k : Nat}
theorem ok_lots_of (M : Mg mg) (F : Fun K "lots_of" "lots_of" s_lots_of f fd) : FnOk P w K mg base CX0 (k + 1) f fd ["m"] (spS w Sp_lots_of) := by
  refine okD F sc_lots_of (fun ss s ⟨n, hn, e, _⟩ => by rw [e]; exact ⟨rfl, no1⟩) (fun cdv A outer sh H E B ss s hr ⟨n, hn, e, es⟩ => ?_)
  subst e es
  have h4 : 2 ≤ n ∧ n ≤ 4 := by simp at hn; omega
  have hlen : (n : Int) + 1 - 2 = ((n - 1 : Nat) : Int) := by omega
  refine hs_then (hs_set 1 (dlstN (ds := []) anil) sc_lots_of.nd) ?_
  refine hs_then (hs_for1 2 (fun i => [.pu (.int n), .ol ((bySize n i).map fun l => dI (nI l)), .un]) sc_lots_of.nd PassesOwn.never (ds := (rng 2 (n - 1)).map .int) (ieq (irange2 M.range_ (acons dint (acons (dadd (dvar 0) dint) anil)) (by omega)) (by rw [hlen]; rfl)) rfl fun j d hd => ?_) ?_
  · obtain ⟨hj, rfl⟩ := rng_at hd
    have hsm := (bySize_small n hn).1 j (by simp; omega)
    refine hss_post (hs_one (hs_extend 1 (ds := (bySize n j).map fun l => dI (nI l)) (dfz (dlistCo (n := n) (k := 2 + j) M.list_ M.range_ M.comb rfl (dvar 0) (deqT (dvar 2) (by congr 2)) hn (by omega) (by omega))) (by simpa using hsm))) fun ρ' e => ?_
    subst e
    refine Up.to (ρ' := _) ?_ rfl
    show Fgt [.pu (.int n), .ol (((bySize n j).map fun l => dI (nI l)) ++ (coL n (2 + j)).map fun l => dI (nI l)), .pu _] [.pu (.int n), .ol ((bySize n (j + 1)).map fun l => dI (nI l)), .un]
    have e : (bySize n (j + 1)) = bySize n j ++ coL n (2 + j) := by simp [bySize, List.range_succ]
    rw [e, List.map_append]
    exact .keep (.keep (.drop .nil))
  · rw [rng_len]
    refine hs_one (hs_ret (dsortedO hr M.sorted_ (dvar 1) ?_) rfl)
    have := so_lots (bySize_lots n hn) (lots_sorted n hn) (by rw [List.length_map]; have := ((bySize_small n hn).1 (n - 1) (by simp; omega)); omega) (bySize_small n hn).2
    rw [List.map_map] at this
    exact this
end
end GY
namespace GY
open PySem PySem.Spec PyProof.Rows L2 PySem.W

def fI (o l : Lot) : Int := (firstIn o l).getD 0
def okO (t : Told) (o : Lot) : Bool := (t.map fun p => !decide (fI o p.1 = p.2)).all id
def ordersL (n : Nat) : List Lot := (peL n).map nI
def ordersT (n : Nat) (t : Told) : List Lot := (ordersL n).filter (okO t)
/-- picks told of lots of n areas -/
structure TV (n : Nat) (t : Told) : Prop where
  len : t.length ≤ 20
  lot : ∀ p ∈ t, p.1 ∈ lotsL n
  nd : (t.map (·.1)).Nodup
/-- d stands for the picks t, as tuples or lists -/
def TD (d : PyData) (t : Told) : Prop := TO 3 d (.tuple (t.map eP))
theorem first_all : ∀ n ∈ [2, 3, 4], ∀ o ∈ ordersL n, ∀ l ∈ lotsL n, firstIn o l = some (fI o l) := by decide +kernel
theorem orders_len : ∀ n ∈ [2, 3, 4], ∀ o ∈ ordersL n, o.length ≤ 100 := by decide +kernel
theorem pe_len : ∀ n ∈ [2, 3, 4], (peL n).length ≤ 1000 := by decide +kernel
theorem nk_eP (t : Told) : nk (t.map eP) = true := by cases t <;> rfl
theorem NK_eP (t : Told) : NK (t.map eP) := nk_NK (nk_eP t)
def Sp_orders_told (ss : List Sl) (s : Sl) : Prop := ∃ (n : Nat) (d : PyData) (t : Told), n ∈ [2, 3, 4] ∧ ss = [.pu (.int n), .pu d] ∧ TD d t ∧ TV n t ∧ s = .ol ((ordersT n t).map dI)
section
variable {P : Program} {w : World} {K : PySem.W.Frag} {mg : Str → Option Value} {base : Heap} {f : Addr} {fd : FuncData} {k : Nat}
theorem ok_orders_told (M : Mg mg) (Gf : Cal P w K mg base CX0 k "first_in" ["order", "lot"] (spS w Sp_first_in)) (Gt : Cal P w K mg base CX0 k "tuple_of" ["thing"] (spS w (Sp_tuple_of 3))) (F : Fun K "orders_told" "orders_told" s_orders_told f fd) :
    FnOk P w K mg base CX0 (k + 1) f fd ["m", "told"] (spS w Sp_orders_told) := by
  refine okD F sc_orders_told (fun ss s ⟨n, d, t, hn, e, _⟩ => by rw [e]; exact ⟨rfl, no2⟩) (fun cdv A outer sh H E B ss s hr ⟨n, d, t, hn, e, hd, ht, es⟩ => ?_)
  subst e es
  refine hs_then (hs_set 2 (deqN (dcall Gt hr (acons (dvar 1) anil) ⟨d, _, rfl, hd, rfl⟩) (slT_x (nk_eP t))) sc_orders_told.nd) ?_
  refine hs_one (hs_ret (deqN (dlc1 (α := List Nat) 3 (fun l => dI (nI l)) (fun l => okO t (nI l)) (fun l => dI (nI l)) sc_orders_told.nd (ipe M.range_ M.perm rfl (dvar 0) hn)
    (fun l hl => pts_one (tcmp (dall rfl M.all_ (bs := t.map fun p => !decide (fI (nI l) p.1 = p.2)) (deqT (dfz (dlc2 (α := Lot × Int) 4 5 eP (fun p => dI p.1) (fun p => .int p.2) (fun _ => true) (fun p => .bool (!decide (fI (nI l) p.1 = p.2))) sc_orders_told.nd (iseq (dwh (dvar 2) (NK_eP t))) (fun _ _ => rfl)
      (fun _ _ => pts0) (fun p hp _ => dC (cneI (dV (dcall Gf hr (acons (dvar 3) (acons (dvar 4) anil)) ⟨nI l, p.1, fI (nI l) p.1, rfl, orders_len n hn _ (List.mem_map_of_mem hl), first_all n hn _ (List.mem_map_of_mem hl) _ (ht.lot p hp), rfl⟩)) (dvar 5))) (by have := ht.len; omega)))
      (by rw [filt_true, List.map_map]; rfl)))))
    (fun l hl _ => dvar 3) (pe_len n hn)) ?_) rfl)
  congr 1
  unfold ordersT ordersL
  rw [List.filter_map, List.map_map]
  rfl
end
end GY
namespace GY
open PySem PySem.Spec PyProof.Rows L2 PySem.W

/-! ## lot_within, ways_of, goods_many -/
abbrev kvP (p : Lot × Int) : List Int × PyData := (p.1, .int p.2)
def tGet (t : Told) (l : Lot) : Option Int := (t.find? fun p => decide (p.1 = l)).map (·.2)
def fac (t : Told) (l : Lot) (a : Int) : Int := match tGet t l with
  | some x => if x = a then 0 else 1
  | none => (l.length : Int) - 1
def inW (a : Int) (whole l : Lot) : Bool := decide (a ∈ l) && (l.map fun o => decide (o ∈ whole)).all id
def lwS (t : Told) (a : Int) (whole : Lot) (acc : Int) (l : Lot) : Int := if inW a whole l = true then acc * fac t l a else acc
def lw (t : Told) (a : Int) (whole : Lot) (ls : List Lot) : Int := ls.foldl (lwS t a whole) 1
theorem dget_kv (l : Lot) : ∀ t : Told, dGet (t.map kvP) l = (tGet t l).map .int
  | [] => rfl
  | p :: t => by
    have ih := dget_kv l t
    unfold dGet tGet at ih ⊢
    rw [List.map_cons, List.find?_cons, List.find?_cons]
    by_cases h : p.1 = l
    · simp [h]
    · simp only [h, decide_false]
      exact ih
theorem lots_ne : ∀ n ∈ [2, 3, 4], ∀ l ∈ lotsL n, l ≠ [] ∧ l.length ≤ 4 ∧ 2 ≤ l.length := by decide +kernel
theorem lotsL_len : ∀ n ∈ [2, 3, 4], (lotsL n).length ≤ 20 := by decide +kernel
def Sp_lot_within (ss : List Sl) (s : Sl) : Prop := ∃ (n : Nat) (t : Told) (a : Int) (whole : Lot), n ∈ [2, 3, 4] ∧ ss = [.pu (.list ((lotsL n).map dI)), .pu (.int a), .fd (t.map kvP), .pu (dI whole)] ∧ s = .pu (.int (lw t a whole (lotsL n)))
theorem foldl_snoc {α β : Type} (g : β → α → β) (b : β) {l : List α} {j : Nat} {x : α} (h : l[j]? = some x) : (l.take (j + 1)).foldl g b = g ((l.take j).foldl g b) x := by
  rw [List.take_add_one, h, List.foldl_append]
  rfl
section
variable {P : Program} {w : World} {K : PySem.W.Frag} {mg : Str → Option Value} {base : Heap} {f : Addr} {fd : FuncData} {k : Nat}
theorem ok_lot_within (M : Mg mg) (F : Fun K "lot_within" "lot_within" s_lot_within f fd) : FnOk P w K mg base CX0 (k + 1) f fd ["lots", "area", "own", "whole"] (spS w Sp_lot_within) := by
  refine okD F sc_lot_within (fun ss s ⟨n, t, a, wh, hn, e, _⟩ => by rw [e]; exact ⟨rfl, fun s h => by simp at h; rcases h with z | z | z | z <;> rw [z] <;> rfl⟩) (fun cdv A outer sh H E B ss s hr ⟨n, t, a, wh, hn, e, es⟩ => ?_)
  subst e es
  refine hs_then (hs_set 4 (dN dint) sc_lot_within.nd) ?_
  refine hs_then (hs_forT (α := Lot) 5 dI (fun i => [.pu (.list ((lotsL n).map dI)), .pu (.int a), .fd (t.map kvP), .pu (dI wh), .pu (.int (lw t a wh ((lotsL n).take i))), .un, .un]) sc_lot_within.nd PassesOwn.never (iseq (dvar 0)) rfl fun j l hl => ?_) ?_
  · have hl' := lots_ne n hn l (List.mem_of_getElem? hl)
    have e1 : lw t a wh ((lotsL n).take (j + 1)) = lwS t a wh (lw t a wh ((lotsL n).take j)) l := foldl_snoc _ _ hl
    have fg : ∀ (v : Int), v = lw t a wh ((lotsL n).take (j + 1)) → Up (· = [.pu (.list ((lotsL n).map dI)), .pu (.int a), .fd (t.map kvP), .pu (dI wh), .pu (.int (lw t a wh ((lotsL n).take (j + 1)))), .un, .un]) [.pu (.list ((lotsL n).map dI)), .pu (.int a), .fd (t.map kvP), .pu (dI wh), .pu (.int v), .pu (dI l), .un] := fun v hv => by
      subst hv
      exact Up.to (.keep (.keep (.keep (.keep (.keep (.drop (.keep .nil))))))) rfl
    refine hs_one (hs_if (b := inW a wh l) (PW.pt (tand2 (tC (cin (dvar 1) (dvar 5))) fun _ => tand1 (tcmp (dall rfl M.all_ (bs := l.map fun o => decide (o ∈ wh)) (deqT (dfz (dlc1 6 PyData.int (fun _ => true) (fun o => .bool (decide (o ∈ wh))) sc_lot_within.nd (iseq (dvar 5)) (fun _ _ => pts0) (fun o _ _ => dC (cin (dvar 6) (dvar 3))) (by omega))) (by rw [filt_true, List.map_map]; rfl)))))) (fun hb => ?_) fun hb => ?_)
    · have e2 : lwS t a wh (lw t a wh ((lotsL n).take j)) l = lw t a wh ((lotsL n).take j) * fac t l a := if_pos hb
      have hg := dget_kv l t
      refine hs_one (hs_if (tC (cdin' hr (dkey (dvar 5) hl'.1) (dvar 2))) (fun hin => ?_) fun hout => ?_)
      · cases hx : tGet t l with
        | none => rw [hg, hx] at hin; cases hin
        | some x =>
          rw [hx] at hg
          refine hss_post (hs_one (hs_set 4 (dN (dmul (dvar 4) (dintB M.int_ (dC (cneI (dget' hr (dvar 2) (dkey (dvar 5) hl'.1) hg) (dvar 1)))) (.inr ?_))) sc_lot_within.nd)) fun ρ' e => ?_
          · split <;> omega
          · subst e
            refine fg _ ?_
            rw [e1, e2]
            unfold fac
            rw [hx]
            by_cases h : x = a <;> simp [h]
      · have hx : tGet t l = none := by
          cases hx : tGet t l with
          | none => rfl
          | some x => rw [hg, hx] at hout; cases hout
        refine hss_post (hs_one (hs_set 4 (dN (dmul (dvar 4) (dsub (dlen M.len_ (dvar 5)) dint) (.inr ?_))) sc_lot_within.nd)) fun ρ' e => ?_
        · rw [List.length_map]; omega
        · subst e
          refine fg _ ?_
          rw [e1, e2, List.length_map]
          unfold fac
          rw [hx]
    · refine hss_post hs_nil fun ρ' e => ?_
      subst e
      refine fg _ ?_
      rw [e1]
      exact (if_neg (by rw [hb]; exact Bool.false_ne_true)).symm
  · refine hs_one (hs_ret (dN (dvar 4)) ?_)
    rw [List.take_length]
end
end GY
namespace GY
open PySem PySem.Spec PyProof.Rows L2 PySem.W

def restOf (whole : Lot) (a : Int) : Lot := whole.filter fun o => !decide (o = a)
/-- how many goods the areas of a whole can be put in, one first after another -/
def Wf (t : Told) (ls : List Lot) : Nat → Lot → Int
  | 0, _ => 1
  | f + 1, whole => whole.foldl (fun tot a => if 0 < Wf t ls f (restOf whole a) then tot + Wf t ls f (restOf whole a) * lw t a whole ls else tot) 0
def W (t : Told) (n : Nat) (whole : Lot) : Int := Wf t (lotsL n) whole.length whole
def wS (t : Told) (n : Nat) (whole : Lot) (tot : Int) (a : Int) : Int := if 0 < W t n (restOf whole a) then tot + W t n (restOf whole a) * lw t a whole (lotsL n) else tot
def preW (n i : Nat) : List Lot := [] :: ((List.range i).flatMap fun j => coL n (1 + j)).map nI
def midW (n i j : Nat) : List Lot := preW n i ++ ((coL n (1 + i)).take j).map nI
def kvW (t : Told) (n : Nat) (ks : List Lot) : List (List Int × PyData) := ks.map fun k => (k, .int (W t n k))
theorem kv_get {g : Lot → PyData} {k : Lot} : ∀ {ks : List Lot}, k ∈ ks → dGet (ks.map fun k => (k, g k)) k = some (g k)
  | x :: ks, h => by
    unfold dGet
    rw [List.map_cons, List.find?_cons]
    by_cases e : x = k
    · subst e; simp
    · simp only [e, decide_false]
      rcases List.mem_cons.mp h with z | z
      · exact absurd z.symm e
      · exact kv_get z
theorem kv_put {g : Lot → PyData} {k : Lot} {ks : List Lot} (h : k ∉ ks) : dPut (ks.map fun k => (k, g k)) k (g k) = (ks ++ [k]).map fun k => (k, g k) := by
  unfold dPut
  rw [if_neg, List.map_append]
  · rfl
  · rw [List.any_eq_true]
    rintro ⟨p, hp, e⟩
    obtain ⟨x, hx, rfl⟩ := List.mem_map.mp hp
    exact h (by rw [← of_decide_eq_true e]; exact hx)
theorem ways_facts : ∀ n ∈ [2, 3, 4], ∀ i ∈ List.range n, ∀ j ∈ List.range (coL n (1 + i)).length, ((coL n (1 + i))[j]?.map nI).any (fun wh => decide (wh ∉ midW n i j) && decide (wh.length = i + 1) && wh.all fun a => decide (restOf wh a ∈ midW n i j) && decide ((restOf wh a).length = i)) = true := by decide +kernel
theorem ways_len : ∀ n ∈ [2, 3, 4], ∀ i ∈ List.range n, ∀ j ∈ List.range (coL n (1 + i)).length, (midW n i j).length < 100 := by decide +kernel
theorem ways_full : ∀ n ∈ [2, 3, 4], nI (List.range n) ∈ preW n n := by decide +kernel
theorem fac_bd {t : Told} {l : Lot} {a : Int} (h : 2 ≤ l.length ∧ l.length ≤ 4) : 0 ≤ fac t l a ∧ fac t l a ≤ 4 := by
  unfold fac
  split
  · split <;> omega
  · omega
theorem lw_bd (t : Told) (a : Int) (wh : Lot) : ∀ (ls : List Lot) (acc : Int), (∀ l ∈ ls, 2 ≤ l.length ∧ l.length ≤ 4) → 0 ≤ acc → 0 ≤ ls.foldl (lwS t a wh) acc ∧ ls.foldl (lwS t a wh) acc ≤ acc * 4 ^ ls.length
  | [], acc, _, h => by simp [h]
  | l :: ls, acc, hl, h => by
    have hb := fac_bd (t := t) (a := a) (hl l List.mem_cons_self)
    have h1 : 0 ≤ acc * fac t l a := Int.mul_nonneg h hb.1
    have h2 : acc * fac t l a ≤ acc * 4 := Int.mul_le_mul_of_nonneg_left hb.2 h
    have hs : 0 ≤ lwS t a wh acc l ∧ lwS t a wh acc l ≤ acc * 4 := by
      unfold lwS
      split
      · exact ⟨h1, h2⟩
      · exact ⟨h, by omega⟩
    obtain ⟨i1, i2⟩ := lw_bd t a wh ls (lwS t a wh acc l) (fun x hx => hl x (List.mem_cons_of_mem _ hx)) hs.1
    refine ⟨i1, Int.le_trans i2 ?_⟩
    rw [List.length_cons, Int.pow_succ, Int.mul_comm (4 ^ ls.length) 4, ← Int.mul_assoc]
    exact Int.mul_le_mul_of_nonneg_right hs.2 (by exact Int.pow_nonneg (by decide))
theorem lw_small {n : Nat} (hn : n ∈ [2, 3, 4]) (t : Told) (a : Int) (wh : Lot) : -(2 ^ 64) < lw t a wh (lotsL n) ∧ lw t a wh (lotsL n) < 2 ^ 64 := by
  have h := lw_bd t a wh (lotsL n) 1 (fun l hl => ⟨(lots_ne n hn l hl).2.2, (lots_ne n hn l hl).2.1⟩) (by decide)
  have hl := lotsL_len n hn
  have h4 : (1 : Int) * 4 ^ (lotsL n).length ≤ 4 ^ 20 := by
    rw [Int.one_mul]
    exact_mod_cast Nat.pow_le_pow_right (by decide) hl
  have e : (4 : Int) ^ 20 < 2 ^ 64 := by decide
  unfold lw
  omega
def Sp_ways_of (ss : List Sl) (s : Sl) : Prop := ∃ (n : Nat) (t : Told), n ∈ [2, 3, 4] ∧ ss = [.pu (.int n), .pu (xD (t.map eP))] ∧ TV n t ∧ s = .od (kvW t n (preW n n))
def Sp_goods_many (ss : List Sl) (s : Sl) : Prop := ∃ (n : Nat) (d : PyData) (t : Told), n ∈ [2, 3, 4] ∧ ss = [.pu (.int n), .pu d] ∧ TD d t ∧ TV n t ∧ s = .pu (.int (W t n (nI (List.range n))))
theorem W_cons {t : Told} {n i : Nat} {wh : Lot} (h : wh.length = i + 1) (hr : ∀ a ∈ wh, (restOf wh a).length = i) : wh.foldl (wS t n wh) 0 = W t n wh := by
  show _ = Wf t (lotsL n) wh.length wh
  rw [h]
  have : ∀ (l : List Int) (acc : Int), (∀ a ∈ l, a ∈ wh) → l.foldl (wS t n wh) acc = l.foldl (fun tot a => if 0 < Wf t (lotsL n) i (restOf wh a) then tot + Wf t (lotsL n) i (restOf wh a) * lw t a wh (lotsL n) else tot) acc := by
    intro l
    induction l with
    | nil => intro _ _; rfl
    | cons a l ih =>
      intro acc hl
      rw [List.foldl_cons, List.foldl_cons, ih _ fun x hx => hl x (List.mem_cons_of_mem _ hx)]
      have e : W t n (restOf wh a) = Wf t (lotsL n) i (restOf wh a) := by unfold W; rw [hr a (hl a List.mem_cons_self)]
      unfold wS
      rw [e]
  exact this wh 0 fun _ h => h
theorem rng_full (n : Nat) : rng 0 ((n : Int)).toNat = nI (List.range n) := by
  unfold rng
  rw [Int.toNat_natCast]
  refine List.map_congr_left fun i _ => ?_
  show (0 : Int) + (i : Int) = i
  omega
section
variable {P : Program} {w : World} {K : PySem.W.Frag} {mg : Str → Option Value} {base : Heap} {f : Addr} {fd : FuncData} {k : Nat}
theorem ok_ways_of (M : Mg mg) (Gl : Cal P w K mg base CX0 k "lots_of" ["m"] (spS w Sp_lots_of)) (Gw : Cal P w K mg base CX0 k "lot_within" ["lots", "area", "own", "whole"] (spS w Sp_lot_within)) (F : Fun K "ways_of" "ways_of" s_ways_of f fd) : FnOk P w K mg base CX0 (k + 1) f fd ["m", "told"] (spS w Sp_ways_of) := by
  refine okD F sc_ways_of (fun ss s ⟨n, t, hn, e, _⟩ => by rw [e]; exact ⟨rfl, no2⟩) (fun cdv A outer sh H E B ss s hr ⟨n, t, hn, e, ht, es⟩ => ?_)
  subst e es
  have h4 : 2 ≤ n ∧ n ≤ 4 := by simp at hn; omega
  have hlen : (n : Int) + 1 - 1 = (n : Int) := by omega
  have ekv : (t.map kvP).map dKV = t.map eP := by rw [List.map_map]; rfl
  refine hs_then (hs_par3 2 3 4 (s1 := .fd (t.map kvP)) (s2 := .pu (.list ((lotsL n).map dI))) (s3 := .od [([], .int 1)]) (dN' (dfzD (ddict hr rfl M.dict_ (deqT (dvar 1) (by rw [ekv])) (fun kv hkv => ?_) ?_ ?_)) rfl) (dN (dfz (dcall Gl hr (acons (dvar 0) anil) ⟨n, hn, rfl, rfl⟩))) (ddisp1 hr (dktup (k := []) anil) dint) rfl sc_ways_of.nd) ?_
  · obtain ⟨p, hp, rfl⟩ := List.mem_map.mp hkv
    exact (lots_ne n hn _ (ht.lot p hp)).1
  · rw [List.map_map]; exact ht.nd
  · rw [List.length_map]; have := ht.len; omega
  refine hs_then (hs_for1 5 (fun i => [.pu (.int n), .pu (xD (t.map eP)), .fd (t.map kvP), .pu (.list ((lotsL n).map dI)), .od (kvW t n (preW n i)), .un, .un, .un, .un, .un, .un]) sc_ways_of.nd PassesOwn.never (ds := (rng 1 n).map .int) (ieq (irange2 M.range_ (acons dint (acons (dadd (dvar 0) dint) anil)) (by omega)) (by rw [hlen]; rfl)) rfl fun i d hd => ?_) ?_
  · obtain ⟨hi, rfl⟩ := rng_at hd
    refine hss_post (hs_one (hs_forT (α := List Nat) 6 (fun l => dI (nI l)) (fun j => [.pu (.int n), .pu (xD (t.map eP)), .fd (t.map kvP), .pu (.list ((lotsL n).map dI)), .od (kvW t n (midW n i j)), .pu (.int (1 + (i : Int))), .un, .un, .un, .un, .un]) sc_ways_of.nd PassesOwn.never (ico (n := n) (k := 1 + i) M.range_ M.comb rfl (dvar 0) (deqT (dvar 5) (by congr 2)) hn (by omega) (by omega)) ?_ fun j c hc => ?_)) fun ρ' e => ?_
    · show _ = [_, _, _, _, Sl.od (kvW t n (midW n i 0)), _, _, _, _, _, _]
      unfold midW
      rw [List.take_zero, List.map_nil, List.append_nil]
      rfl
    · have hjl : j < (coL n (1 + i)).length := (List.getElem?_eq_some_iff.mp hc).1
      have hf := ways_facts n hn i (by simp; omega) j (by simp; exact hjl)
      have hlen2 := ways_len n hn i (by simp; omega) j (by simp; exact hjl)
      rw [hc, Option.map_some] at hf
      simp only [Option.any_some, Bool.and_eq_true, decide_eq_true_eq, List.all_eq_true] at hf
      obtain ⟨⟨hnew, hwl⟩, hrest⟩ := hf
      have hne : nI c ≠ [] := fun z => by rw [z] at hwl; simp at hwl
      refine hs_then (hs_set 7 (dN dint) sc_ways_of.nd) ?_
      refine hs_then (hs_forT (α := Int) 8 PyData.int (fun q => [.pu (.int n), .pu (xD (t.map eP)), .fd (t.map kvP), .pu (.list ((lotsL n).map dI)), .od (kvW t n (midW n i j)), .pu (.int (1 + (i : Int))), .pu (dI (nI c)), .pu (.int (((nI c).take q).foldl (wS t n (nI c)) 0)), .un, .un, .un]) sc_ways_of.nd PassesOwn.never (iseq (dvar 6)) rfl fun q a ha => ?_) ?_
      · have ham : a ∈ nI c := List.mem_of_getElem? ha
        have hg : dGet (kvW t n (midW n i j)) (restOf (nI c) a) = some (.int (W t n (restOf (nI c) a))) := kv_get (g := fun k => .int (W t n k)) (hrest a ham).1
        have e1 : ((nI c).take (q + 1)).foldl (wS t n (nI c)) 0 = wS t n (nI c) (((nI c).take q).foldl (wS t n (nI c)) 0) a := foldl_snoc _ _ ha
        refine hs_then (hs_set 9 (dN' (dtupleK M.tuple_ (deqT (dfz (dlc1 10 PyData.int (fun o => !decide (o = a)) PyData.int sc_ways_of.nd (iseq (dvar 6)) (fun _ _ => pts_one (tC (cneI (dvar 10) (dvar 8)))) (fun _ _ _ => dvar 10) (by rw [hwl]; omega))) rfl)) rfl) sc_ways_of.nd) ?_
        refine hs_one (hs_if (tC (cgt (dget' hr (dvar 4) (dvar 9) hg) dint)) (fun hb => ?_) fun hb => ?_)
        · refine hss_post (hs_one (hs_aug 7 rfl (dmul (dget' hr (dvar 4) (dvar 9) hg) (dV (dcall Gw hr (acons (dvar 3) (acons (dvar 8) (acons (dvar 2) (acons (dvar 6) anil)))) ⟨n, t, a, nI c, hn, rfl, rfl⟩)) (.inr (lw_small hn _ _ _))) sc_ways_of.nd)) fun ρ' e => ?_
          subst e
          refine Up.to (ρ' := _) ?_ rfl
          rw [e1, show wS t n (nI c) (((nI c).take q).foldl (wS t n (nI c)) 0) a = _ from if_pos (of_decide_eq_true hb)]
          exact .keep (.keep (.keep (.keep (.keep (.keep (.keep (.keep (.drop (.drop (.keep .nil))))))))))
        · refine hss_post hs_nil fun ρ' e => ?_
          subst e
          refine Up.to (ρ' := _) ?_ rfl
          rw [e1, show wS t n (nI c) (((nI c).take q).foldl (wS t n (nI c)) 0) a = _ from if_neg (of_decide_eq_false hb)]
          exact .keep (.keep (.keep (.keep (.keep (.keep (.keep (.keep (.drop (.drop (.keep .nil))))))))))
      · rw [List.take_length, W_cons hwl fun a ha => (hrest a ha).2]
        refine hss_post (hs_one (hs_dput 4 hr (dkey (dvar 6) hne) (dvar 7) (by show (kvW t n (midW n i j)).length < 1000; unfold kvW; rw [List.length_map]; omega))) fun ρ' e => ?_
        subst e
        refine Up.to (ρ' := _) ?_ rfl
        have e2 : dPut (kvW t n (midW n i j)) (nI c) (.int (W t n (nI c))) = kvW t n (midW n i (j + 1)) := by
          unfold kvW
          rw [kv_put (g := fun k => .int (W t n k)) hnew]
          congr 1
          unfold midW
          rw [List.take_add_one, hc, List.map_append, List.append_assoc]
          rfl
        show Fgt [_, _, _, _, Sl.od (dPut (kvW t n (midW n i j)) (nI c) (.int (W t n (nI c)))), _, _, _, _, _, _] _
        rw [e2]
        exact .keep (.keep (.keep (.keep (.keep (.keep (.drop (.drop (.keep (.keep (.keep .nil))))))))))
    · subst e
      refine Up.to (ρ' := _) ?_ rfl
      have e2 : midW n i (coL n (1 + i)).length = preW n (i + 1) := by
        unfold midW preW
        rw [List.take_length, List.range_succ, List.flatMap_append, List.map_append, List.cons_append]
        simp
      show Fgt [_, _, _, _, Sl.od (kvW t n (midW n i (coL n (1 + i)).length)), _, _, _, _, _, _] _
      rw [e2]
      exact .keep (.keep (.keep (.keep (.keep (.drop (.keep (.keep (.keep (.keep (.keep .nil))))))))))
  · rw [rng_len]
    exact hs_one (hs_retO 4 rfl)
theorem ok_goods_many (M : Mg mg) (Gw : Cal P w K mg base CX0 k "ways_of" ["m", "told"] (spS w Sp_ways_of)) (Gt : Cal P w K mg base CX0 k "tuple_of" ["thing"] (spS w (Sp_tuple_of 3))) (F : Fun K "goods_many" "goods_many" s_goods_many f fd) : FnOk P w K mg base CX0 (k + 1) f fd ["m", "told"] (spS w Sp_goods_many) := by
  refine okD F sc_goods_many (fun ss s ⟨n, d, t, hn, e, _⟩ => by rw [e]; exact ⟨rfl, no2⟩) (fun cdv A outer sh H E B ss s hr ⟨n, d, t, hn, e, hd, ht, es⟩ => ?_)
  subst e es
  have h4 : 2 ≤ n ∧ n ≤ 4 := by simp at hn; omega
  refine hs_one (hs_ret (dN (dget' hr (dV (dcall Gw hr (acons (dvar 0) (acons (deqT (dV (dcall Gt hr (acons (dvar 1) anil) ⟨d, _, rfl, hd, rfl⟩)) (slT_x (nk_eP t))) anil)) ⟨n, t, hn, rfl, ht, rfl⟩)) (dtupRg rfl M.tuple_ M.range_ (dvar 0) (by omega)) ?_)) rfl)
  rw [rng_full]
  exact kv_get (g := fun k => .int (W t n k)) (ways_full n hn)
end
end GY
namespace GY
open PySem PySem.Spec PyProof.Rows L2 PySem.W

/-! ## is_barred, bar, is_bar -/
def pickedL (t : Told) (l : Lot) : List Int := (t.filter fun p => liesIn p.1 [l]).map (·.2)
def isBarred (t : Told) (l : Lot) : Bool := (l.map fun a => memS (pickedL t l) a).all id
/-- picks told, of lots of any kind -/
structure TS (t : Told) : Prop where
  len : t.length ≤ 20
  lot : ∀ p ∈ t, p.1.length ≤ 4
theorem TV.ts {n : Nat} (hn : n ∈ [2, 3, 4]) {t : Told} (h : TV n t) : TS t := ⟨h.len, fun p hp => (lots_ne n hn _ (h.lot p hp)).2.1⟩
def Sp_is_barred (ss : List Sl) (s : Sl) : Prop := ∃ (t : Told) (l : Lot), ss = [.pu (.tuple (t.map eP)), .pu (dI l)] ∧ TS t ∧ l.length ≤ 100 ∧ s = .pu (.bool (isBarred t l))
def bySizeL (n : Nat) : List Lot := (bySize n (n - 1)).map nI
def barL (n : Nat) (t : Told) : Option Lot := (bySizeL n).find? (isBarred t)
def Sp_bar (ss : List Sl) (s : Sl) : Prop := ∃ (n : Nat) (d : PyData) (t : Told) (l : Lot), n ∈ [2, 3, 4] ∧ ss = [.pu (.int n), .pu d] ∧ TD d t ∧ TV n t ∧ barL n t = some l ∧ s = .pu (dI l)
def Rs_bar (ss : List Sl) : Prop := ∃ (n : Nat) (d : PyData) (t : Told), n ∈ [2, 3, 4] ∧ ss = [.pu (.int n), .pu d] ∧ TD d t ∧ TV n t ∧ barL n t = none
def incr (l : Lot) : Bool := ((l.zip (l.drop 1)).map fun p => decide (p.1 < p.2)).all id
def isBarT (t : Told) (l : Lot) : Bool := if l.length < 2 then false else incr l && isBarred t l
def Sp_is_bar (ss : List Sl) (s : Sl) : Prop := ∃ (d : PyData) (t : Told) (l : Lot), TD d t ∧ TS t ∧ l.length ≤ 100 ∧ (∀ a ∈ l, 0 ≤ a) ∧
  ((ss = [.pu d, .pu (dI l)] ∧ s = .pu (.bool (isBarT t l))) ∨ (ss = [.pu d, .pu (.list (l.map .int))] ∧ s = .pu (.bool false)))
theorem bySize_mem : ∀ n ∈ [2, 3, 4], ∀ i ∈ List.range (n - 1), ∀ l ∈ coL n (2 + i), (nI l).length ≤ 100 ∧ l ∈ bySize n (n - 1) := by decide +kernel
theorem bySize_split : ∀ n ∈ [2, 3, 4], ∀ i ∈ List.range (n - 1), ∀ j ∈ List.range (coL n (2 + i)).length, bySize n (n - 1) = (bySize n i ++ (coL n (2 + i)).take j) ++ (bySize n (n - 1)).drop ((bySize n i).length + j) ∧ ((bySize n (n - 1)).drop ((bySize n i).length + j)).head? = (coL n (2 + i))[j]? := by decide +kernel
theorem cut1 (l : List Int) : cutD (l.map PyData.int) (some 1) none = (l.drop 1).map .int := by
  unfold cutD
  have e1 : HT.sIx (l.map PyData.int).length 0 (some 1) = min 1 l.length := by
    have := HT.sIx_nat (l.map PyData.int).length 0 1
    rw [List.length_map] at this ⊢
    exact this
  have e2 : HT.sIx (l.map PyData.int).length (l.map PyData.int).length none = l.length := by rw [HT.sIx_none, List.length_map]
  rw [e1, e2]
  cases l with
  | nil => rfl
  | cons x l =>
    have h1 : min 1 (x :: l).length = 1 := by rw [List.length_cons]; omega
    rw [h1, ← List.map_drop, List.length_cons, Nat.add_sub_cancel]
    show (List.map PyData.int l).take l.length = List.map PyData.int l
    rw [List.take_of_length_le (by rw [List.length_map]; exact Nat.le_refl _)]
theorem zip_ints (a b : List Int) : zipD (a.map .int) (b.map .int) = (a.zip b).map fun p => .tuple [.int p.1, .int p.2] := by
  unfold zipD
  rw [List.zip_map, List.map_map]
  rfl
section
variable {P : Program} {w : World} {K : PySem.W.Frag} {mg : Str → Option Value} {base : Heap} {f : Addr} {fd : FuncData} {k : Nat}
theorem ok_is_barred (M : Mg mg) (Gli : Cal P w K mg base CX0 k "lies_in" ["lot", "lots"] (spS w Sp_lies_in)) (F : Fun K "is_barred" "is_barred" s_is_barred f fd) : FnOk P w K mg base CX0 (k + 1) f fd ["told", "lot"] (spS w Sp_is_barred) := by
  refine okD F sc_is_barred (fun ss s ⟨t, l, e, _⟩ => by rw [e]; exact ⟨rfl, no2⟩) (fun cdv A outer sh H E B ss s hr ⟨t, l, e, ht, hl, es⟩ => ?_)
  subst e es
  refine hs_then (hs_set 2 (dN' (dsc2 (α := Lot × Int) 3 4 eP (fun p => dI p.1) (fun p => .int p.2) (fun p => liesIn p.1 [l]) (·.2) sc_is_barred.nd (iseq (dvar 0)) (fun _ _ => rfl)
    (fun p hp => pts_one (tcmp (dV (dcall Gli hr (acons (dvar 3) (acons (dtup (ds := [dI l]) (acons (dvar 1) anil) (hl := by simp)) anil)) ⟨p.1, [l], rfl, by have := ht.lot p hp; omega, by simp, rfl⟩)))) (fun p hp _ => dvar 4) (by have := ht.len; omega)) rfl) sc_is_barred.nd) ?_
  exact hs_one (hs_ret (dN (dall rfl M.all_ (bs := l.map fun a => memS (pickedL t l) a) (deqT (dfz (dlc1 4 PyData.int (fun _ => true) (fun a => .bool (memS (pickedL t l) a)) sc_is_barred.nd (iseq (dvar 1)) (fun _ _ => pts0) (fun a _ _ => dC (csin (dvar 4) (dvar 2))) (by omega))) (by rw [filt_true, List.map_map]; rfl)))) rfl)
theorem ok_is_bar (M : Mg mg) (Gn : Cal P w K mg base CX0 k "is_number" ["thing"] (spS w Sp_is_number)) (Gb : Cal P w K mg base CX0 k "is_barred" ["told", "lot"] (spS w Sp_is_barred)) (Gt : Cal P w K mg base CX0 k "tuple_of" ["thing"] (spS w (Sp_tuple_of 3))) (F : Fun K "is_bar" "is_bar" s_is_bar f fd) :
    FnOk P w K mg base CX0 (k + 1) f fd ["told", "thing"] (spS w Sp_is_bar) := by
  refine okD F sc_is_bar (fun ss s ⟨d, t, l, _, _, _, _, h⟩ => by rcases h with ⟨e, _⟩ | ⟨e, _⟩ <;> (rw [e]; exact ⟨rfl, no2⟩)) (fun cdv A outer sh H E B ss s hr ⟨d, t, l, hd, ht, hl, hpos, h⟩ => ?_)
  rcases h with ⟨e, es⟩ | ⟨e, es⟩
  · subst e es
    by_cases h2 : l.length < 2
    · have e0 : isBarT t l = false := if_pos h2
      rw [e0]
      refine hs_cons (M := fun _ => False) (hs_if (PW.pt (tor2 (tnot (tcmp (disi (d := dI l) M.isinstance_ (dvar 1) M.tuple_ boot_tuple' (c := true) kit_tt))) fun _ => tor1 (tC (clt (dlen M.len_ (dvar 1)) dint)))) (fun _ => hs_one (hs_ret (dN dbl) rfl)) fun hb => ?_) fun _ z => z.elim
      rw [List.length_map] at hb
      simp at hb
      omega
    · have e0 : isBarT t l = (incr l && isBarred t l) := if_neg h2
      rw [e0]
      have hno : decide (((l.map PyData.int).length : Int) < 2) = false := by rw [List.length_map]; exact decide_eq_false (by omega)
      refine hs_then (hs_if (b := false) (PW.pt (deqW (tor2 (tnot (tcmp (disi (d := dI l) M.isinstance_ (dvar 1) M.tuple_ boot_tuple' (c := true) kit_tt))) fun _ => tor1 (tC (clt (dlen M.len_ (dvar 1)) dint))) (by rw [hno]; rfl))) (fun z => by cases z) fun _ => hs_nil) ?_
      refine hs_then (hs_if (b := false) (deqP (tnot (tcmp (dall rfl M.all_ (bs := l.map fun _ => true) (deqT (dfz (dlc1 2 PyData.int (fun _ => true) (fun _ => .bool true) sc_is_bar.nd (iseq (dvar 1)) (fun _ _ => pts0) (fun a ha _ => deqT (dand2 (c := true) (dV (dcall Gn hr (acons (dvar 2) anil) ⟨a, rfl, rfl⟩)) fun _ => done1 (dC (cge (dvar 2) dint))) (by rw [decide_eq_true (hpos a ha)]; rfl)) (by omega))) (by rw [filt_true, List.map_map]; rfl))))) (by rw [show (l.map fun _ => true).all id = true by simp]; rfl)) (fun z => by cases z) fun _ => hs_nil) ?_
      refine hs_one (hs_ret (dN (dand2 (dall rfl M.all_ (bs := (l.zip (l.drop 1)).map fun p => decide (p.1 < p.2)) (deqT (dfz (dlc2 (α := Int × Int) 3 4 (fun p => .tuple [.int p.1, .int p.2]) (fun p => .int p.1) (fun p => .int p.2) (fun _ => true) (fun p => .bool (decide (p.1 < p.2))) sc_is_bar.nd (ieq (izipT M.zip_ (dvar 1) (dsliceT (dvar 1) (osome dint) onone)) (by rw [cut1, zip_ints])) (fun _ _ => rfl) (fun _ _ => pts0) (fun p _ _ => dC (clt (dvar 3) (dvar 4))) (by rw [List.length_zip]; omega))) (by rw [filt_true, List.map_map]; rfl)))
        fun _ => done1 (dV (dcall Gb hr (acons (dwh (deqT (dV (dcall Gt hr (acons (dvar 0) anil) ⟨d, _, rfl, hd, rfl⟩)) (slT_x (nk_eP t))) (NK_eP t)) (acons (dvar 1) anil)) ⟨t, l, rfl, ht, hl, rfl⟩)))) rfl)
  · subst e es
    refine hs_cons (M := fun _ => False) (hs_if (PW.pt (tor2 (c2 := false) (tnot (tcmp (disi (d := .list (l.map .int)) M.isinstance_ (dvar 1) M.tuple_ boot_tuple' (c := false) kit_lt))) fun z => by cases z)) (fun _ => hs_one (hs_ret (dN dbl) rfl)) fun z => by cases z) fun _ z => z.elim
end
end GY
namespace GY
open PySem PySem.Spec PyProof.Rows L2 PySem.W

/-- the class CanNot at C -/
structure CN (K : PySem.W.Frag) (mg : Str → Option Value) (C : Addr) : Prop where
  xF : PySem.W.excIn K C [.type "ValueError", .type "Exception", .type "BaseException", .type "object"] "ValueError.__new__" = true
  gF : mg "CanNot" = some (.ref C)
  kF : PySem.W.keepIn K (.ref C) = true
  bF : PySem.W.subIn K (.ref C) (.type "BaseException") = some true
  tF : PySem.W.typeIn K (.ref C) = some (.type "type")
  iF : PySem.W.isClsIn K C = true
  sF : PySem.W.subIn K (.ref C) (.ref C) = some true
theorem find_here {α : Type} {p : α → Bool} {l A D : List α} {x : α} (e : l = A ++ x :: D) (hA : ∀ y ∈ A, p y = false) (hx : p x = true) : l.find? p = some x := by
  rw [e, List.find?_append, List.find?_eq_none.mpr (fun y hy => by rw [hA y hy]; exact Bool.false_ne_true), List.find?_cons, hx]
  rfl
theorem bySize_succ (n i : Nat) : bySize n (i + 1) = bySize n i ++ coL n (2 + i) := by simp [bySize, List.range_succ]
section
variable {P : Program} {w : World} {K : PySem.W.Frag} {mg : Str → Option Value} {base : Heap} {f C : Addr} {fd : FuncData} {k : Nat}
theorem ok_bar (M : Mg mg) (cn : CN K mg C) (Gb : Cal P w K mg base CX0 k "is_barred" ["told", "lot"] (spS w Sp_is_barred)) (Gt : Cal P w K mg base CX0 k "tuple_of" ["thing"] (spS w (Sp_tuple_of 3))) (F : Fun K "bar" "bar" s_bar f fd) :
    FnOk P w K mg base (L2.CX P w) (k + 1) f fd ["m", "told"] (spX w C Sp_bar Rs_bar) := by
  refine okDX F sc_bar (fun ss s ⟨n, d, t, l, _, e, _⟩ => by rw [e]; exact ⟨rfl, no2⟩) (fun ss ⟨n, d, t, _, e, _⟩ => by rw [e]; exact ⟨rfl, no2⟩) (fun cdv A outer sh H E B ss R hr h => ?_)
  obtain ⟨n, d, t, hn, e, hd, ht, hret, hraise⟩ : ∃ (n : Nat) (d : PyData) (t : Told), n ∈ [2, 3, 4] ∧ ss = [.pu (.int n), .pu d] ∧ TD d t ∧ TV n t ∧ (∀ l ρ, barL n t = some l → R (.pu (dI l)) ρ) ∧ (barL n t = none → ∀ H', Same B.2 H' → E (.ref C) none H') := by
    rcases h with ⟨s, ⟨n, d, t, l, hn, e, hd, ht, hb, es⟩, hR⟩ | ⟨⟨n, d, t, hn, e, hd, ht, hb⟩, hR⟩
    · refine ⟨n, d, t, hn, e, hd, ht, fun l' ρ h' => ?_, fun z => by rw [hb] at z; cases z⟩
      rw [hb] at h'
      cases h'
      rw [hR]
      exact es.symm
    · exact ⟨n, d, t, hn, e, hd, ht, fun l' ρ h' => (by rw [hb] at h'; cases h'), fun _ => hR⟩
  clear h
  subst e
  have h4 : 2 ≤ n ∧ n ≤ 4 := by simp at hn; omega
  have hlen : (n : Int) + 1 - 2 = ((n - 1 : Nat) : Int) := by omega
  refine hs_then (hs_set 2 (deqN (dcall Gt hr (acons (dvar 1) anil) ⟨d, _, rfl, hd, rfl⟩) (slT_x (nk_eP t))) sc_bar.nd) ?_
  refine hs_cons (hs_forC (α := Int) 3 PyData.int (fun _ => [.pu (.int n), .pu d, .pu (xD (t.map eP)), .un, .un]) (fun i => ∀ l ∈ (bySize n i).map nI, isBarred t l = false) (xs := rng 2 (n - 1)) sc_bar.nd (passes_of rfl) (ieq (irange2 M.range_ (acons dint (acons (dadd (dvar 0) dint) anil)) (by omega)) (by rw [hlen]; rfl)) rfl (fun l hl => by simp [bySize] at hl) fun i x hx hC => ?_) fun ρ' ⟨e, hC⟩ => ?_
  · have hx2 : ((rng 2 (n - 1)).map PyData.int)[i]? = some (.int x) := by rw [List.getElem?_map, hx]; rfl
    obtain ⟨hi, ex⟩ := rng_at hx2
    cases ex
    refine hss_post (hs_one (hs_forC (α := List Nat) 4 (fun l => dI (nI l)) (fun _ => [.pu (.int n), .pu d, .pu (xD (t.map eP)), .pu (.int (2 + (i : Int))), .un]) (fun j => ∀ l ∈ (bySize n i ++ (coL n (2 + i)).take j).map nI, isBarred t l = false) sc_bar.nd (passes_of rfl) (ico (n := n) (k := 2 + i) M.range_ M.comb rfl (dvar 0) (deqT (dvar 3) (by congr 2)) hn (by omega) (by omega)) rfl (fun l hl => hC l (by simpa using hl)) fun j c hc hC' => ?_)) fun ρ' ⟨e, hC'⟩ => ?_
    · have hcm : c ∈ coL n (2 + i) := List.mem_of_getElem? hc
      have hjl := (List.getElem?_eq_some_iff.mp hc).1
      have hbm := bySize_mem n hn i (by simp; omega) c hcm
      refine hs_one (hs_if (tcmp (dV (dcall Gb hr (acons (dwh (dvar 2) (NK_eP t)) (acons (dvar 4) anil)) ⟨t, nI c, rfl, ht.ts hn, hbm.1, rfl⟩))) (fun hb => ?_) fun hb => ?_)
      · refine hs_one (hs_ret (dN (dvar 4)) (hret _ _ ?_))
        obtain ⟨sp, hh⟩ := bySize_split n hn i (by simp; omega) j (by simp; exact hjl)
        rw [hc] at hh
        cases hD : (bySize n (n - 1)).drop ((bySize n i).length + j) with
        | nil => rw [hD] at hh; cases hh
        | cons y D =>
          rw [hD] at hh
          cases hh
          rw [hD] at sp
          refine find_here (A := (bySize n i ++ (coL n (2 + i)).take j).map nI) (D := D.map nI) ?_ hC' hb
          show (bySize n (n - 1)).map nI = _
          rw [sp, List.map_append]
          rfl
      · refine hss_post hs_nil fun ρ' e => ?_
        subst e
        refine Up.to (ρ' := _) ?_ ⟨rfl, fun l hl => ?_⟩
        · exact .keep (.keep (.keep (.keep (.drop .nil))))
        · rw [List.take_add_one, hc, ← List.append_assoc, List.map_append] at hl
          rcases List.mem_append.mp hl with z | z
          · exact hC' l z
          · have : l = nI c := by simpa using z
            rw [this]
            exact hb
    · subst e
      refine Up.to (ρ' := _) ?_ ⟨rfl, fun l hl => hC' l ?_⟩
      · exact .keep (.keep (.keep (.drop (.keep .nil))))
      · rw [List.take_length, ← bySize_succ]
        exact hl
  · subst e
    rw [rng_length] at hC
    refine hs_one (hs_raise rfl (takes_of rfl rfl rfl rfl) (pmk_none PySem.F.excBase_ValueError cn.xF cn.gF cn.kF (raises_own cn.bF cn.tF) rfl) (hraise ?_))
    exact List.find?_eq_none.mpr fun l hl => by rw [hC l hl]; exact Bool.false_ne_true
end
end GY
namespace GY
open PySem PySem.Spec PyProof.Rows L2 PySem.W

/-! ## plain facts of picks told -/
theorem nodup_len {α : Type} [DecidableEq α] : ∀ (l m : List α), l.Nodup → (∀ x ∈ l, x ∈ m) → l.length ≤ m.length
  | [], _, _, _ => Nat.zero_le _
  | x :: l, m, h, hm => by
    have hx := hm x List.mem_cons_self
    have ih := nodup_len l (m.erase x) (List.nodup_cons.mp h).2 fun y hy => by
      have hne : y ≠ x := fun z => (List.nodup_cons.mp h).1 (z ▸ hy)
      exact (List.mem_erase_of_ne hne).mpr (hm y (List.mem_cons_of_mem _ hy))
    have hl := List.length_erase_of_mem hx
    have hpos := List.length_pos_of_mem hx
    rw [List.length_cons]
    omega
theorem TV.mk' {n : Nat} (hn : n ∈ [2, 3, 4]) {t : Told} (lot : ∀ p ∈ t, p.1 ∈ lotsL n) (nd : (t.map (·.1)).Nodup) : TV n t := by
  refine ⟨?_, lot, nd⟩
  have h := nodup_len (t.map (·.1)) (lotsL n) nd fun x hx => by
    obtain ⟨p, hp, rfl⟩ := List.mem_map.mp hx
    exact lot p hp
  have h2 := lotsL_len n hn
  rw [List.length_map] at h
  omega
theorem tGet_mem : ∀ {t : Told} {l : Lot} {a : Int}, tGet t l = some a → (l, a) ∈ t
  | [], _, _, h => by cases h
  | p :: t, l, a, h => by
    unfold tGet at h
    rw [List.find?_cons] at h
    by_cases e : p.1 = l
    · simp only [e, decide_true, Option.map_some, Option.some.injEq] at h
      rw [← e, ← h]
      exact List.mem_cons_self
    · simp only [e, decide_false] at h
      exact List.mem_cons_of_mem _ (tGet_mem h)
theorem tGet_of : ∀ {t : Told} {l : Lot} {a : Int}, (t.map (·.1)).Nodup → (l, a) ∈ t → tGet t l = some a
  | p :: t, l, a, nd, h => by
    rw [List.map_cons, List.nodup_cons] at nd
    unfold tGet
    rw [List.find?_cons]
    rcases List.mem_cons.mp h with z | z
    · subst z; simp
    · have e : p.1 ≠ l := fun z2 => nd.1 (by rw [z2]; exact List.mem_map.mpr ⟨(l, a), z, rfl⟩)
      simp only [e, decide_false]
      exact tGet_of nd.2 z
theorem tGet_none {t : Told} {l : Lot} : tGet t l = none ↔ l ∉ t.map (·.1) := by
  unfold tGet
  rw [Option.map_eq_none_iff, List.find?_eq_none]
  constructor
  · intro h hm
    obtain ⟨p, hp, e⟩ := List.mem_map.mp hm
    exact h p hp (decide_eq_true e)
  · intro h p hp e
    exact h (List.mem_map.mpr ⟨p, hp, of_decide_eq_true e⟩)
def sortT (n : Nat) (t : Told) : Told := (lotsL n).filterMap fun l => (tGet t l).map fun a => (l, a)
theorem sortT_pw {n : Nat} (hn : n ∈ [2, 3, 4]) (t : Told) : (sortT n t).Pairwise fun p q => dataLt (dI p.1) (dI q.1) = true := by
  unfold sortT
  rw [List.pairwise_filterMap]
  refine (lots_sorted n hn).imp fun {l m} h p hp q hq => ?_
  have e1 : p.1 = l := by cases h1 : tGet t l with
    | none => rw [h1] at hp; cases hp
    | some a => rw [h1] at hp; cases hp; rfl
  have e2 : q.1 = m := by cases h1 : tGet t m with
    | none => rw [h1] at hq; cases hq
    | some a => rw [h1] at hq; cases hq; rfl
  rw [e1, e2]
  exact h
theorem sortT_mem {n : Nat} {t : Told} (h : TV n t) {p : Lot × Int} : p ∈ sortT n t ↔ p ∈ t := by
  unfold sortT
  rw [List.mem_filterMap]
  constructor
  · rintro ⟨l, _, e⟩
    cases h1 : tGet t l with
    | none => rw [h1] at e; cases e
    | some a => rw [h1] at e; cases e; exact tGet_mem h1
  · intro hp
    refine ⟨p.1, h.lot p hp, ?_⟩
    rw [tGet_of (a := p.2) h.nd hp]
    rfl
theorem nd_of_keys {t : Told} (h : (t.map (·.1)).Nodup) : t.Nodup := List.Pairwise.of_map (·.1) (fun a b hab e => hab (by rw [e])) h
theorem sortT_nd {n : Nat} (hn : n ∈ [2, 3, 4]) (t : Told) : ((sortT n t).map (·.1)).Nodup := by
  rw [List.nodup_iff_pairwise_ne, List.pairwise_map]
  exact (sortT_pw hn t).imp fun h => lt_ne h
theorem sortT_perm {n : Nat} (hn : n ∈ [2, 3, 4]) {t : Told} (h : TV n t) : (sortT n t).Perm t :=
  (List.perm_ext_iff_of_nodup (nd_of_keys (sortT_nd hn t)) (nd_of_keys h.nd)).mpr fun _ => sortT_mem h
theorem sortT_tv {n : Nat} (hn : n ∈ [2, 3, 4]) {t : Told} (h : TV n t) : TV n (sortT n t) := TV.mk' hn (fun p hp => h.lot p ((sortT_mem h).mp hp)) (sortT_nd hn t)
theorem so_sortT {n : Nat} (hn : n ∈ [2, 3, 4]) {t : Told} (h : TV n t) : SortOk (t.map eP) ((sortT n t).map eP) := so_told (sortT_perm hn h) (sortT_pw hn t) (by have := h.len; omega)
theorem TV.add {n : Nat} (hn : n ∈ [2, 3, 4]) {t : Told} {l : Lot} {a : Int} (h : TV n t) (hl : l ∈ lotsL n) (hg : tGet t l = none) : TV n (t ++ [(l, a)]) := by
  refine TV.mk' hn (fun p hp => ?_) ?_
  · rcases List.mem_append.mp hp with z | z
    · exact h.lot p z
    · rw [List.mem_singleton.mp z]; exact hl
  · rw [List.map_append]
    exact List.nodup_append.mpr ⟨h.nd, by simp, fun x hx y hy e => by
      have : y = l := by simpa using hy
      exact tGet_none.mp hg (by rw [← this, ← e]; exact hx)⟩
theorem paired_map {α β γ : Type} {R : β → γ → Prop} {f : α → β} {g : α → γ} : ∀ {l : List α}, (∀ a ∈ l, R (f a) (g a)) → Paired R (l.map f) (l.map g)
  | [], _ => .nil
  | a :: l, h => .cons (h a List.mem_cons_self) (paired_map fun b hb => h b (List.mem_cons_of_mem _ hb))
theorem TO_int (n : Nat) (i : Int) : TO n (.int i) (.int i) := by
  cases n with
  | zero => exact ⟨i, rfl, rfl⟩
  | succ n => exact .inl ⟨i, rfl, rfl⟩
theorem TO_lot {d : PyData} (n : Nat) {l : Lot} (h : isSeq d (l.map .int)) (hl : l.length ≤ 1000) : TO (n + 1) d (dI l) :=
  .inr ⟨_, _, h, rfl, by rw [List.length_map]; exact hl, paired_map fun i _ => TO_int n i⟩
theorem TD_tuple {t : Told} (h : TS t) : TD (.tuple (t.map eP)) t := by
  refine .inr ⟨_, _, .inr rfl, rfl, by rw [List.length_map]; have := h.len; omega, paired_map fun p hp => ?_⟩
  exact .inr ⟨_, _, .inr rfl, rfl, by simp, .cons (TO_lot 0 (.inr rfl) (by have := h.lot p hp; omega)) (.cons (TO_int 1 p.2) .nil)⟩
/-- the picks told as lists -/
abbrev eLP (p : Lot × Int) : PyData := .list [.list (p.1.map .int), .int p.2]
theorem TD_list {t : Told} (h : TS t) : TD (.list (t.map eLP)) t := by
  refine .inr ⟨_, _, .inl rfl, rfl, by rw [List.length_map]; have := h.len; omega, paired_map fun p hp => ?_⟩
  exact .inr ⟨_, _, .inl rfl, rfl, by simp, .cons (TO_lot 0 (.inl rfl) (by have := h.lot p hp; omega)) (.cons (TO_int 1 p.2) .nil)⟩
theorem lay_ints : ∀ l : List Int, PyData.canLayAll0 (l.map .int) = true
  | [] => rfl
  | x :: l => by rw [List.map_cons, PyData.canLayAll0, lay_ints l]; rfl
theorem lay_dI (l : Lot) : (dI l).canLay0 = true := by rw [PyData.canLay0, lay_ints]
theorem lays_map {α : Type} {f : α → PyData} : ∀ (l : List α), (∀ a ∈ l, (f a).canLay0 = true) → PyData.canLayAll0 (l.map f) = true
  | [], _ => rfl
  | x :: l, h => by rw [List.map_cons, PyData.canLayAll0, h x List.mem_cons_self, lays_map l fun a ha => h a (List.mem_cons_of_mem _ ha)]; rfl
theorem deps_map {α : Type} {f : α → PyData} {n : Nat} : ∀ (l : List α), (∀ a ∈ l, (f a).depth ≤ n) → PyData.depthAll (l.map f) ≤ n
  | [], _ => Nat.zero_le _
  | x :: l, h => by rw [List.map_cons, PyData.depthAll]; exact Nat.max_le.mpr ⟨h x List.mem_cons_self, deps_map l fun a ha => h a (List.mem_cons_of_mem _ ha)⟩
theorem sh_dI (l : Lot) : SeqAt.shaped (dI l) = true := by
  unfold SeqAt.shaped
  rw [lay_dI, dep_dI]
  rfl
theorem sh_list {α : Type} {f : α → PyData} (l : List α) (h1 : ∀ a ∈ l, (f a).canLay0 = true) (h2 : ∀ a ∈ l, (f a).depth ≤ 50) : SeqAt.shaped (.list (l.map f)) = true := by
  unfold SeqAt.shaped
  rw [PyData.canLay0, lays_map l h1, PyData.depth]
  have := deps_map l h2
  rw [decide_eq_true (by omega)]
  rfl
theorem sh_lots (ls : List Lot) : SeqAt.shaped (.list (ls.map dI)) = true := sh_list ls (fun a _ => lay_dI a) fun a _ => by rw [dep_dI]; decide
theorem sh_nil : SeqAt.shaped (.list []) = true := by decide
theorem eqv_nil {α : Type} {f : α → PyData} (l : List α) : PyData.eqv (.list (l.map f)) (.list []) = l.isEmpty := by
  cases l with
  | nil => rfl
  | cons x l => rfl
/-- the greatest of a list -/
def maxL : List Int → Int
  | [] => 0
  | x :: xs => xs.foldl max x
theorem maxL_is : ∀ {ns : List Int}, ns ≠ [] → isMax ns (maxL ns)
  | [], h => absurd rfl h
  | x :: xs, _ => by
    have go : ∀ (xs : List Int) (x : Int), (xs.foldl max x = x ∨ xs.foldl max x ∈ xs) ∧ x ≤ xs.foldl max x ∧ ∀ y ∈ xs, y ≤ xs.foldl max x := by
      intro xs
      induction xs with
      | nil => intro x; exact ⟨.inl rfl, Int.le_refl _, fun _ h => nomatch h⟩
      | cons y xs ih =>
        intro x
        obtain ⟨h1, h2, h3⟩ := ih (max x y)
        rw [List.foldl_cons]
        refine ⟨?_, by omega, fun z hz => ?_⟩
        · rcases h1 with z | z
          · rw [z]
            by_cases hxy : x ≤ y
            · right; rw [show max x y = y by omega]; exact List.mem_cons_self
            · left; omega
          · exact .inr (List.mem_cons_of_mem _ z)
        · rcases List.mem_cons.mp hz with e | e
          · rw [e]; omega
          · exact h3 z e
    obtain ⟨h1, h2, h3⟩ := go xs x
    refine ⟨?_, fun y hy => ?_⟩
    · rcases h1 with z | z
      · show xs.foldl max x ∈ x :: xs
        rw [z]; exact List.mem_cons_self
      · exact List.mem_cons_of_mem _ z
    · rcases List.mem_cons.mp hy with e | e
      · rw [e]; exact h2
      · exact h3 y e
/-- the first of the least -/
def bestE (x : Int × Lot) (xs : List (Int × Lot)) : Int × Lot := xs.foldl (fun a y => if dataLt (eN y) (eN a) then y else a) x
theorem minD_eN (xs : List (Int × Lot)) : ∀ x, minD (eN x) (xs.map eN) = eN (bestE x xs) := by
  induction xs with
  | nil => intro x; rfl
  | cons y xs ih =>
    intro x
    unfold minD bestE at ih ⊢
    rw [List.map_cons, List.foldl_cons, List.foldl_cons]
    by_cases h : dataLt (eN y) (eN x) = true
    · rw [if_pos h, if_pos h]; exact ih y
    · rw [if_neg h, if_neg h]; exact ih x
theorem dep_eNs (l : List (Int × Lot)) : PyData.depthAll (l.map eN) ≤ 50 := deps_map l fun a _ => by rw [dep_eN]; decide
theorem nX_eNs : ∀ l : List (Int × Lot), nX.nXs (l.map eN) = true := fun l => nXs_noList _ (nols_map nol_eN l)
end GY
namespace GY
open PySem PySem.Spec PyProof.Rows L2 PySem.W

/-! ## sure_picks -/
def firstsL (n : Nat) (t : Told) (l : Lot) : List Int := (ordersT n t).map fun o => fI o l
def otherA (n : Nat) (t : Told) (l : Lot) : List Int := l.filter fun a => !memS (firstsL n t l) a
def sureS (n : Nat) (t : Told) (acc : Told) (l : Lot) : Told :=
  if (!(tGet acc l).isSome && decide ((cntS (firstsL n t l) : Int) = 1)) = true then acc ++ [(l, (otherA n t l).head?.getD 0)] else acc
def pairsL (n : Nat) : List Lot := (coL n 2).map nI
def sureL (n : Nat) (t : Told) : Told := (pairsL n).foldl (sureS n t) t
theorem pairs_lots : ∀ n ∈ [2, 3, 4], ∀ l ∈ pairsL n, l ∈ lotsL n ∧ l.length = 2 ∧ l.Nodup := by decide +kernel
theorem orders_few : ∀ n ∈ [2, 3, 4], (ordersL n).length ≤ 100 := by decide +kernel
theorem ordersT_few {n : Nat} (hn : n ∈ [2, 3, 4]) (t : Told) : (ordersT n t).length ≤ 100 := Nat.le_trans (List.length_filter_le _ _) (orders_few n hn)
theorem ordersT_sub {n : Nat} {t : Told} {o : Lot} (h : o ∈ ordersT n t) : o ∈ ordersL n := (List.mem_filter.mp h).1
theorem cnt_two {l : List Int} {a b : Int} (ha : a ∈ l) (hb : b ∈ l) (hab : a ≠ b) : 2 ≤ cntS l := by
  have h := nodup_len [a, b] (dedS l) (by simp [hab]) fun x hx => by
    rcases List.mem_cons.mp hx with e | e
    · rw [e]; exact mem_dedS.mpr ha
    · rw [List.mem_singleton.mp e]; exact mem_dedS.mpr hb
  exact h
theorem other_some {n : Nat} {t : Told} {l : Lot} (hn : n ∈ [2, 3, 4]) (hl : l ∈ pairsL n) (hc : cntS (firstsL n t l) = 1) : ∃ x, (otherA n t l).head? = some x := by
  obtain ⟨_, h2, hnd⟩ := pairs_lots n hn l hl
  match l, h2 with
  | [a, b], _ =>
    have hab : a ≠ b := by simpa using hnd
    have h : otherA n t [a, b] ≠ [] := fun z => by
      have h1 : ∀ x ∈ [a, b], x ∈ firstsL n t [a, b] := fun x hx => by
        have := List.filter_eq_nil_iff.mp z x hx
        simpa [memS] using this
      have := cnt_two (h1 a (by simp)) (h1 b (by simp)) hab
      omega
    cases e : otherA n t [a, b] with
    | nil => exact absurd e h
    | cons x r => exact ⟨x, rfl⟩
theorem sureS_tv {n : Nat} (hn : n ∈ [2, 3, 4]) {t acc : Told} {l : Lot} (h : TV n acc) (hl : l ∈ pairsL n) : TV n (sureS n t acc l) := by
  unfold sureS
  split
  · rename_i hc
    rw [Bool.and_eq_true] at hc
    exact h.add hn (pairs_lots n hn l hl).1 (by cases hg : tGet acc l with
      | none => rfl
      | some x => rw [hg] at hc; exact absurd hc.1 (by simp))
  · exact h
def Sp_sure_picks (ss : List Sl) (s : Sl) : Prop := ∃ (n : Nat) (d : PyData) (t : Told), n ∈ [2, 3, 4] ∧ ss = [.pu (.int n), .pu d] ∧ TD d t ∧ TV n t ∧ ordersT n t ≠ [] ∧ s = .pu (.tuple ((sortT n (sureL n t)).map eP))
def Rs_sure_picks (ss : List Sl) : Prop := ∃ (n : Nat) (d : PyData) (t : Told), n ∈ [2, 3, 4] ∧ ss = [.pu (.int n), .pu d] ∧ TD d t ∧ TV n t ∧ ordersT n t = []
/-! ## fits, most_left, best_ask -/
abbrev kvR (p : Lot × Int) : List Int × PyData := (p.1, dI [p.2])
def fitsL (t r : Told) : Bool := (t.map fun p => decide (tGet r p.1 = some p.2)).all id
def Sp_fits (ss : List Sl) (s : Sl) : Prop := ∃ (d e : PyData) (n : Nat) (t r : Told), n ∈ [2, 3, 4] ∧ ss = [.pu d, .pu e] ∧ TD d t ∧ TO 3 e (.tuple (r.map eR)) ∧ TV n t ∧ TV n r ∧ (∀ p ∈ t, (tGet r p.1).isSome = true) ∧ s = .pu (.bool (fitsL t r))
def fullL (n : Nat) : Lot := nI (List.range n)
def insT (n : Nat) (t : Told) (l : Lot) (a : Int) : Told := sortT n (t ++ [(l, a)])
def mlL (n : Nat) (t : Told) (l : Lot) : Int := maxL (l.map fun a => W (insT n t l a) n (fullL n))
def Sp_most_left (ss : List Sl) (s : Sl) : Prop := ∃ (n : Nat) (t : Told) (l : Lot), n ∈ [2, 3, 4] ∧ ss = [.pu (.int n), .pu (.tuple (t.map eP)), .pu (dI l)] ∧ TV n t ∧ l ∈ lotsL n ∧ tGet t l = none ∧ s = .pu (.int (mlL n t l))
def asks (n : Nat) (t : Told) : List (Int × Lot) := ((lotsL n).filter fun l => !(tGet t l).isSome).map fun l => (mlL n t l, l)
def Sp_best_ask (ss : List Sl) (s : Sl) : Prop := ∃ (n : Nat) (d : PyData) (t : Told), n ∈ [2, 3, 4] ∧ ss = [.pu (.int n), .pu d] ∧ TD d t ∧ TV n t ∧ W t n (fullL n) ≠ 0 ∧
  ((W t n (fullL n) = 1 ∧ s = .pu .none) ∨ (W t n (fullL n) ≠ 1 ∧ ∃ x xs, asks n t = x :: xs ∧ s = .pu (dI (bestE x xs).2)))
def Rs_best_ask (ss : List Sl) : Prop := ∃ (n : Nat) (d : PyData) (t : Told), n ∈ [2, 3, 4] ∧ ss = [.pu (.int n), .pu d] ∧ TD d t ∧ TV n t ∧ W t n (fullL n) = 0
theorem no3 {a b c : PyData} : NoOwn [.pu a, .pu b, .pu c] := fun s h => by
  simp at h
  rcases h with z | z | z <;> rw [z] <;> rfl
theorem ekv (t : Told) : (t.map kvP).map dKV = t.map eP := by rw [List.map_map]; rfl
theorem TV.keys {n : Nat} (hn : n ∈ [2, 3, 4]) {t : Told} (h : TV n t) : ∀ kv ∈ t.map kvP, kv.1 ≠ [] := fun kv hkv => by
  obtain ⟨p, hp, rfl⟩ := List.mem_map.mp hkv
  exact (lots_ne n hn _ (h.lot p hp)).1
theorem TV.knd {n : Nat} {t : Told} (h : TV n t) : ((t.map kvP).map (·.1)).Nodup := by rw [List.map_map]; exact h.nd
theorem TV.klen {n : Nat} {t : Told} (h : TV n t) : (t.map kvP).length ≤ 1000 := by rw [List.length_map]; have := h.len; omega
theorem kv_add {acc : Told} {l : Lot} {x : Int} (h : tGet acc l = none) : dPut (acc.map kvP) l (.int x) = (acc ++ [(l, x)]).map kvP := by
  unfold dPut
  rw [if_neg, List.map_append]
  · rfl
  · rw [List.any_eq_true]
    rintro ⟨p, hp, e⟩
    obtain ⟨q, hq, rfl⟩ := List.mem_map.mp hp
    exact tGet_none.mp h (List.mem_map.mpr ⟨q, hq, of_decide_eq_true e⟩)
section
variable {P : Program} {w : World} {K : PySem.W.Frag} {mg : Str → Option Value} {base : Heap} {f C : Addr} {fd : FuncData} {k : Nat}
theorem ok_sure_picks (M : Mg mg) (cn : CN K mg C) (Gf : Cal P w K mg base CX0 k "first_in" ["order", "lot"] (spS w Sp_first_in)) (Go : Cal P w K mg base CX0 k "orders_told" ["m", "told"] (spS w Sp_orders_told)) (Gt : Cal P w K mg base CX0 k "tuple_of" ["thing"] (spS w (Sp_tuple_of 3))) (F : Fun K "sure_picks" "sure_picks" s_sure_picks f fd) :
    FnOk P w K mg base (L2.CX P w) (k + 1) f fd ["m", "told"] (spX w C Sp_sure_picks Rs_sure_picks) := by
  refine okDX F sc_sure_picks (fun ss s ⟨n, d, t, _, e, _⟩ => by rw [e]; exact ⟨rfl, no2⟩) (fun ss ⟨n, d, t, _, e, _⟩ => by rw [e]; exact ⟨rfl, no2⟩) (fun cdv A outer sh H E B ss R hr h => ?_)
  obtain ⟨n, d, t, hn, e, hd, ht, hret, hraise⟩ : ∃ (n : Nat) (d : PyData) (t : Told), n ∈ [2, 3, 4] ∧ ss = [.pu (.int n), .pu d] ∧ TD d t ∧ TV n t ∧ (∀ ρ, ordersT n t ≠ [] → R (.pu (.tuple ((sortT n (sureL n t)).map eP))) ρ) ∧ (ordersT n t = [] → ∀ H', Same B.2 H' → E (.ref C) none H') := by
    rcases h with ⟨s, ⟨n, d, t, hn, e, hd, ht, hb, es⟩, hR⟩ | ⟨⟨n, d, t, hn, e, hd, ht, hb⟩, hR⟩
    · exact ⟨n, d, t, hn, e, hd, ht, fun ρ _ => by rw [hR]; exact es.symm, fun z => absurd z hb⟩
    · exact ⟨n, d, t, hn, e, hd, ht, fun ρ h' => absurd hb h', fun _ => hR⟩
  clear h
  subst e
  have h4 : 2 ≤ n ∧ n ≤ 4 := by simp at hn; omega
  refine hs_then (hs_par 2 3 (s1 := .od (t.map kvP)) (s2 := .pu (.list ((ordersT n t).map dI))) (ddict hr rfl M.dict_ (deqT (dV (dcall Gt hr (acons (dvar 1) anil) ⟨d, _, rfl, hd, rfl⟩)) (by rw [slT_x (nk_eP t), ekv])) (ht.keys hn) ht.knd ht.klen) (dN (dfz (dcall Go hr (acons (dvar 0) (acons (dvar 1) anil)) ⟨n, d, t, hn, rfl, hd, ht, rfl⟩))) rfl sc_sure_picks.nd) ?_
  by_cases ho : ordersT n t = []
  · refine hs_cons (M := fun _ => False) (hs_if (b := true) (deqP (tC (ceqD hr (dvar 3) (dlst (ds := []) anil) (sh_lots _) sh_nil)) (by rw [eqv_nil, ho]; rfl)) (fun _ => hs_one (hs_raise rfl (takes_of rfl rfl rfl rfl) (pmk_none PySem.F.excBase_ValueError cn.xF cn.gF cn.kF (raises_own cn.bF cn.tF) rfl) (hraise ho))) fun z => by cases z) fun _ z => z.elim
  · refine hs_then (hs_if (b := false) (deqP (tC (ceqD hr (dvar 3) (dlst (ds := []) anil) (sh_lots _) sh_nil)) (by rw [eqv_nil]; cases hq : ordersT n t with
      | nil => exact absurd hq ho
      | cons _ _ => rfl)) (fun z => by cases z) fun _ => hs_nil) ?_
    refine hs_cons (hs_forC (α := List Nat) 4 (fun l => dI (nI l)) (fun j => [.pu (.int n), .pu d, .od ((((pairsL n).take j).foldl (sureS n t) t).map kvP), .pu (.list ((ordersT n t).map dI)), .un, .un, .un, .un]) (fun j => TV n (((pairsL n).take j).foldl (sureS n t) t)) sc_sure_picks.nd (passes_of rfl) (ico (n := n) (k := 2) M.range_ M.comb rfl (dvar 0) dint hn (by omega) (by omega)) rfl ht fun j c hc hC => ?_) fun ρ' ⟨e, hC⟩ => ?_
    · have hp : (pairsL n)[j]? = some (nI c) := by unfold pairsL; rw [List.getElem?_map, hc]; rfl
      have hpm : nI c ∈ pairsL n := List.mem_of_getElem? hp
      obtain ⟨hlot, hl2, hlnd⟩ := pairs_lots n hn _ hpm
      have hne : nI c ≠ [] := fun z => by rw [z] at hl2; simp at hl2
      have e1 : ((pairsL n).take (j + 1)).foldl (sureS n t) t = sureS n t (((pairsL n).take j).foldl (sureS n t) t) (nI c) := foldl_snoc _ _ hp
      have htv : TV n (((pairsL n).take (j + 1)).foldl (sureS n t) t) := by rw [e1]; exact sureS_tv hn hC hpm
      generalize hacc : ((pairsL n).take j).foldl (sureS n t) t = acc at hC e1 ⊢
      have hg := dget_kv (nI c) acc
      have hcnt : cntS (firstsL n t (nI c)) ≤ 1000 := by
        have h1 := cntS_le (firstsL n t (nI c))
        have h2 := ordersT_few hn t
        unfold firstsL at h1 ⊢
        rw [List.length_map] at h1
        omega
      refine hs_then (hs_set 5 (dN' (deqT (dsc1 (α := Lot) 6 dI (fun _ => true) (fun o => fI o (nI c)) sc_sure_picks.nd (iseq (dvar 3)) (fun _ _ => pts0) (fun o ho' _ => dV (dcall Gf hr (acons (dvar 6) (acons (dvar 4) anil)) ⟨o, nI c, _, rfl, orders_len n hn o (ordersT_sub ho'), first_all n hn o (ordersT_sub ho') _ hlot, rfl⟩)) (ordersT_few hn t)) (by rw [filt_true])) rfl) sc_sure_picks.nd) ?_
      refine hs_one (hs_if (b := !(tGet acc (nI c)).isSome && decide ((cntS (firstsL n t (nI c)) : Int) = 1)) (PW.pt (deqW (tand2 (tC (cdnin' hr (dkey (dvar 4) hne) (dvar 2))) fun _ => tand1 (tC (ceqI (dlenS M.len_ (dvar 5) hcnt) dint))) (by rw [hg]; cases tGet acc (nI c) <;> rfl))) (fun hb => ?_) fun hb => ?_)
      · have hb' := hb
        rw [Bool.and_eq_true] at hb'
        have hnone : tGet acc (nI c) = none := by
          cases hx : tGet acc (nI c) with
          | none => rfl
          | some x => rw [hx] at hb'; exact absurd hb'.1 (by simp)
        have hc1 : cntS (firstsL n t (nI c)) = 1 := by have := of_decide_eq_true hb'.2; omega
        obtain ⟨x, hx⟩ := other_some hn hpm hc1
        refine hss_post (hs_one (hs_dput 2 (kvs := acc.map kvP) hr (dkey (dvar 4) hne) (dixd (dfz (dlc1 7 PyData.int (fun a => !memS (firstsL n t (nI c)) a) PyData.int sc_sure_picks.nd (iseq (dvar 4)) (fun _ _ => pts_one (tC (csnin (dvar 7) (dvar 5)))) (fun _ _ _ => dvar 7) (by rw [hl2]; omega))) dint (d := .int x) (atI_head (by
          rw [List.head?_map]
          show ((otherA n t (nI c)).head?).map PyData.int = _
          rw [hx]; rfl))) (by have := hC.len; rw [List.length_map]; omega))) fun ρ' e => ?_
        subst e
        refine Up.to (ρ' := _) ?_ ⟨rfl, htv⟩
        rw [e1]
        show Fgt [_, _, Sl.od (dPut (acc.map kvP) (nI c) (.int x)), _, _, _, _, _] _
        rw [kv_add hnone, show sureS n t acc (nI c) = acc ++ [(nI c, (otherA n t (nI c)).head?.getD 0)] from if_pos hb, hx]
        exact .keep (.keep (.keep (.keep (.drop (.drop (.keep (.keep .nil)))))))
      · refine hss_post hs_nil fun ρ' e => ?_
        subst e
        refine Up.to (ρ' := _) ?_ ⟨rfl, htv⟩
        rw [e1, show sureS n t acc (nI c) = acc from if_neg (by rw [hb]; exact Bool.false_ne_true)]
        exact .keep (.keep (.keep (.keep (.drop (.drop (.keep (.keep .nil)))))))
    · subst e
      have el : (pairsL n).take (coL n 2).length = pairsL n := by unfold pairsL; rw [List.take_of_length_le (by rw [List.length_map]; exact Nat.le_refl _)]
      rw [el] at hC ⊢
      exact hs_one (hs_ret (dN (dtupleO M.tuple_ (dV (dsortItems (kvs := ((pairsL n).foldl (sureS n t) t).map kvP) (es := (sortT n (sureL n t)).map eP) hr rfl M.sorted_ (dvar 2) (by rw [ekv]; exact so_sortT hn hC) hC.klen)))) (hret _ ho))
theorem ok_fits (M : Mg mg) (Gt : Cal P w K mg base CX0 k "tuple_of" ["thing"] (spS w (Sp_tuple_of 3))) (F : Fun K "fits" "fits" s_fits f fd) : FnOk P w K mg base CX0 (k + 1) f fd ["told", "rule"] (spS w Sp_fits) := by
  refine okD F sc_fits (fun ss s ⟨d, e, n, t, r, _, e', _⟩ => by rw [e']; exact ⟨rfl, no2⟩) (fun cdv A outer sh H E B ss s hr ⟨d, e, n, t, r, hn, e', hd, hr', ht, htr, hk, es⟩ => ?_)
  subst e' es
  have nkr : nk (r.map eR) = true := by cases r <;> rfl
  have ekr : (r.map kvR).map dKV = r.map eR := by rw [List.map_map]; rfl
  refine hs_then (hs_set 2 (ddict hr rfl M.dict_ (deqT (dV (dcall Gt hr (acons (dvar 1) anil) ⟨e, _, rfl, hr', rfl⟩)) (by rw [slT_x nkr, ekr])) (fun kv hkv => ?_) ?_ ?_) sc_fits.nd) ?_
  · obtain ⟨p, hp, rfl⟩ := List.mem_map.mp hkv
    exact (lots_ne n hn _ (htr.lot p hp)).1
  · rw [List.map_map]; exact htr.nd
  · rw [List.length_map]; have := htr.len; omega
  have dg : ∀ (l : Lot) (r : Told), dGet (r.map kvR) l = (tGet r l).map fun a => dI [a] := fun l r => by
    induction r with
    | nil => rfl
    | cons p r ih =>
      unfold dGet tGet at ih ⊢
      rw [List.map_cons, List.find?_cons, List.find?_cons]
      by_cases h : p.1 = l
      · simp [h]
      · simp only [h, decide_false]
        exact ih
  refine hs_one (hs_ret (dN (dall rfl M.all_ (bs := t.map fun p => decide (tGet r p.1 = some p.2)) (deqT (dfz (dlc2 (α := Lot × Int) 3 4 eP (fun p => dI p.1) (fun p => .int p.2) (fun _ => true) (fun p => .bool (decide (tGet r p.1 = some p.2))) sc_fits.nd (iseq (dwh (deqT (dV (dcall Gt hr (acons (dvar 0) anil) ⟨d, _, rfl, hd, rfl⟩)) (slT_x (nk_eP t))) (NK_eP t))) (fun _ _ => rfl) (fun _ _ => pts0) (fun p hp _ => ?_) (by have := ht.len; omega))) (by rw [filt_true, List.map_map]; rfl)))) rfl)
  cases hx : tGet r p.1 with
  | none => have := hk p hp; rw [hx] at this; cases this
  | some x =>
    refine deqT (dC (ceqD hr (dget' hr (dvar 2) (dkey (dvar 3) (lots_ne n hn _ (ht.lot p hp)).1) (by rw [dg, hx]; rfl)) (dtup (ds := [.int p.2]) (acons (dvar 4) anil) (hl := by simp)) (sh_dI [x]) (sh_dI [p.2]))) ?_
    show Sl.pu (.bool (PyData.eqv (dI [x]) (dI [p.2]))) = _
    rw [eqv_dI [x] [p.2]]
    congr 2
    by_cases h : x = p.2 <;> simp [h]
theorem ok_most_left (M : Mg mg) (Gg : Cal P w K mg base CX0 k "goods_many" ["m", "told"] (spS w Sp_goods_many)) (F : Fun K "most_left" "most_left" s_most_left f fd) : FnOk P w K mg base CX0 (k + 1) f fd ["m", "told", "lot"] (spS w Sp_most_left) := by
  refine okD F sc_most_left (fun ss s ⟨n, t, l, _, e, _⟩ => by rw [e]; exact ⟨rfl, no3⟩) (fun cdv A outer sh H E B ss s hr ⟨n, t, l, hn, e, ht, hl, hg, es⟩ => ?_)
  subst e es
  obtain ⟨hne, hl4, _⟩ := lots_ne n hn l hl
  refine hs_one (hs_ret (dN (dmax rfl M.max_ (ns := l.map fun a => W (insT n t l a) n (fullL n)) (deqT (dfz (dlc1 3 PyData.int (fun _ => true) (fun a => .int (W (insT n t l a) n (fullL n))) sc_most_left.nd (iseq (dvar 2)) (fun _ _ => pts0) (fun a _ _ => ?_) (by omega))) (by rw [filt_true, List.map_map]; rfl)) (maxL_is (by intro z; exact hne (List.map_eq_nil_iff.mp z))))) rfl)
  have ht' := ht.add hn hl hg (a := a)
  exact dV (dcall Gg hr (acons (dvar 0) (acons (dtupleO M.tuple_ (dV (dsorted hr M.sorted_ (dcatT (dvar 1) (dtup (ds := [eP (l, a)]) (acons (dtup (ds := [dI l, .int a]) (acons (dvar 2) (acons (dvar 3) anil)) (hl := by simp)) anil) (hl := by simp)) (by have := ht.len; rw [List.length_map]; simp; omega)) (by
    have := so_sortT hn ht'
    rw [List.map_append] at this
    exact this)))) anil)) ⟨n, _, insT n t l a, hn, rfl, TD_tuple ((sortT_tv hn ht').ts hn), sortT_tv hn ht', rfl⟩)
theorem ok_best_ask (M : Mg mg) (cn : CN K mg C) (Gl : Cal P w K mg base CX0 k "lots_of" ["m"] (spS w Sp_lots_of)) (Gm : Cal P w K mg base CX0 k "most_left" ["m", "told", "lot"] (spS w Sp_most_left)) (Gg : Cal P w K mg base CX0 k "goods_many" ["m", "told"] (spS w Sp_goods_many)) (Gt : Cal P w K mg base CX0 k "tuple_of" ["thing"] (spS w (Sp_tuple_of 3))) (F : Fun K "best_ask" "best_ask" s_best_ask f fd) :
    FnOk P w K mg base (L2.CX P w) (k + 1) f fd ["m", "told"] (spX w C Sp_best_ask Rs_best_ask) := by
  refine okDX F sc_best_ask (fun ss s ⟨n, d, t, _, e, _⟩ => by rw [e]; exact ⟨rfl, no2⟩) (fun ss ⟨n, d, t, _, e, _⟩ => by rw [e]; exact ⟨rfl, no2⟩) (fun cdv A outer sh H E B ss R hr h => ?_)
  obtain ⟨n, d, t, hn, e, hd, ht, hret, hraise⟩ : ∃ (n : Nat) (d : PyData) (t : Told), n ∈ [2, 3, 4] ∧ ss = [.pu (.int n), .pu d] ∧ TD d t ∧ TV n t ∧ (W t n (fullL n) ≠ 0 → (W t n (fullL n) = 1 ∧ ∀ ρ, R (.pu .none) ρ) ∨ (W t n (fullL n) ≠ 1 ∧ ∃ x xs, asks n t = x :: xs ∧ ∀ ρ, R (.pu (dI (bestE x xs).2)) ρ)) ∧ (W t n (fullL n) = 0 → ∀ H', Same B.2 H' → E (.ref C) none H') := by
    rcases h with ⟨s, ⟨n, d, t, hn, e, hd, ht, hb, hs⟩, hR⟩ | ⟨⟨n, d, t, hn, e, hd, ht, hb⟩, hR⟩
    · refine ⟨n, d, t, hn, e, hd, ht, fun _ => ?_, fun z => absurd z hb⟩
      rcases hs with ⟨h1, es⟩ | ⟨h1, x, xs, ea, es⟩
      · exact .inl ⟨h1, fun ρ => by rw [hR]; exact es.symm⟩
      · exact .inr ⟨h1, x, xs, ea, fun ρ => by rw [hR]; exact es.symm⟩
    · exact ⟨n, d, t, hn, e, hd, ht, fun h' => absurd hb h', fun _ => hR⟩
  clear h
  subst e
  refine hs_then (hs_set 2 (deqN (dcall Gt hr (acons (dvar 1) anil) ⟨d, _, rfl, hd, rfl⟩) (slT_x (nk_eP t))) sc_best_ask.nd) ?_
  refine hs_then (hs_set 3 (dcall Gg hr (acons (dvar 0) (acons (dwh (dvar 2) (NK_eP t)) anil)) ⟨n, _, t, hn, rfl, TD_tuple (ht.ts hn), ht, rfl⟩) sc_best_ask.nd) ?_
  by_cases h0 : W t n (fullL n) = 0
  · exact hs_cons (M := fun _ => False) (hs_if (b := true) (deqP (tC (ceqI (dvar 3) dint)) (decide_eq_true h0)) (fun _ => hs_one (hs_raise rfl (takes_of rfl rfl rfl rfl) (pmk_none PySem.F.excBase_ValueError cn.xF cn.gF cn.kF (raises_own cn.bF cn.tF) rfl) (hraise h0))) fun z => by cases z) fun _ z => z.elim
  · refine hs_then (hs_if (b := false) (deqP (tC (ceqI (dvar 3) dint)) (decide_eq_false h0)) (fun z => by cases z) fun _ => hs_nil) ?_
    rcases hret h0 with ⟨h1, hR⟩ | ⟨h1, x, xs, ea, hR⟩
    · exact hs_cons (M := fun _ => False) (hs_if (b := true) (deqP (tC (ceqI (dvar 3) dint)) (decide_eq_true h1)) (fun _ => hs_one (hs_ret (dN dnon) (hR _))) fun z => by cases z) fun _ z => z.elim
    · refine hs_then (hs_if (b := false) (deqP (tC (ceqI (dvar 3) dint)) (decide_eq_false h1)) (fun z => by cases z) fun _ => hs_nil) ?_
      refine hs_then (hs_set 4 (ddict hr rfl M.dict_ (deqT (dvar 2) (by rw [ekv])) (ht.keys hn) ht.knd ht.klen) sc_best_ask.nd) ?_
      refine hs_one (hs_ret (dN (dixd (ds := [.int (bestE x xs).1, dI (bestE x xs).2]) (dminD (d := eN x) (ds := xs.map eN) hr rfl M.min_ (dV (deqN (dlc1 (α := Lot) 5 dI (fun l => !(tGet t l).isSome) (fun l => eN (mlL n t l, l)) sc_best_ask.nd (iseq (dfz (dcall Gl hr (acons (dvar 0) anil) ⟨n, hn, rfl, rfl⟩)))
        (fun l hl => pts_one (deqP (tC (cdnin' hr (dkey (dvar 5) (lots_ne n hn l hl).1) (dvar 4))) (by rw [dget_kv]; cases tGet t l <;> rfl)))
        (fun l hl hf => dtup (ds := [.int (mlL n t l), dI l]) (acons (dV (dcall Gm hr (acons (dvar 0) (acons (dwh (dvar 2) (NK_eP t)) (acons (dvar 5) anil))) ⟨n, t, l, hn, rfl, ht, hl, (by cases hx : tGet t l with
          | none => rfl
          | some y => rw [hx] at hf; cases hf), rfl⟩)) (acons (dvar 5) anil)) (hl := by simp)) (by have := lotsL_len n hn; omega)) (by
            show Sl.ol _ = Sl.ol (eN x :: xs.map eN)
            congr 1
            have e2 := congrArg (List.map eN) ea
            unfold asks at e2
            rw [List.map_map] at e2
            exact e2))) (.inl rfl) (al_eN (x :: xs)) (dep_eNs (x :: xs)) (nX_eNs (x :: xs)) (minD_eN xs x)) dint rfl)) (hR _))
end
end GY
namespace GY
open PySem PySem.Spec PyProof.Rows L2 PySem.W

/-! ## the law's own defs -/
def subsA : Nat → List Lot
  | 0 => [[]]
  | i + 1 => subsA i ++ (subsA i).map fun l => l ++ [(i : Int)]
theorem subs_lots : ∀ n ∈ [2, 3, 4], (lotsL n).Perm ((subsA n).filter fun l => decide ((2 : Int) ≤ (l.length : Int))) := by
  intro n hn
  have : n = 2 ∨ n = 3 ∨ n = 4 := by simpa using hn
  rcases this with rfl | rfl | rfl <;> decide +kernel
theorem subs_small : ∀ i ∈ List.range 5, (subsA i).length ≤ 16 ∧ ∀ l ∈ subsA i, l.length ≤ 4 := by decide +kernel
def Sp_law_lots (ss : List Sl) (s : Sl) : Prop := ∃ n : Nat, n ∈ [2, 3, 4] ∧ ss = [.pu (.int n), .pu (.int 2)] ∧ s = .ol ((lotsL n).map dI)
/-- the orders, one area more at each lap -/
def ordA (n : Nat) : Nat → List Lot
  | 0 => [[]]
  | i + 1 => (ordA n i).flatMap fun o => ((rng 0 n).filter fun a => !decide (a ∈ o)).map fun a => o ++ [a]
theorem ordA_all : ∀ n ∈ [2, 3, 4], ordA n n = ordersL n := by decide +kernel
theorem ordA_small : ∀ n ∈ [2, 3, 4], ∀ i ∈ List.range 5, (ordA n i).length ≤ 24 ∧ ∀ l ∈ ordA n i, l.length ≤ 4 := by decide +kernel
def Sp_law_orders (ss : List Sl) (s : Sl) : Prop := ∃ n : Nat, n ∈ [2, 3, 4] ∧ ss = [.pu (.int n)] ∧ s = .pu (.list ((ordersL n).map dI))
abbrev eRule (r : Told) : PyData := xD (r.map eR)
def rulS (l : Lot) (rs : List Told) : List Told := rs.flatMap fun r => l.map fun a => r ++ [(l, a)]
def rulesL (n : Nat) : List Told := (lotsL n).foldl (fun rs l => rulS l rs) [[]]
theorem rules_small : ∀ n ∈ [2, 3], ∀ j ∈ List.range ((lotsL n).length + 1), ((((lotsL n).take j).foldl (fun rs l => rulS l rs) [[]]).length ≤ 24) ∧ ∀ r ∈ ((lotsL n).take j).foldl (fun rs l => rulS l rs) [[]], r.length ≤ 4 := by decide +kernel
def Sp_law_all_rules (ss : List Sl) (s : Sl) : Prop := ∃ n : Nat, n ∈ [2, 3] ∧ ss = [.pu (.int n)] ∧ s = .pu (.list ((rulesL n).map eRule))
def goesL (r : Told) (o : Lot) : Bool := (r.filter fun p => decide (p.2 = fI o p.1)).isEmpty
def Sp_law_goes (ss : List Sl) (s : Sl) : Prop := ∃ (n : Nat) (r : Told) (o : Lot), n ∈ [2, 3, 4] ∧ ss = [.pu (.tuple (r.map eR)), .pu (dI o)] ∧ TV n r ∧ o ∈ ordersL n ∧ s = .pu (.bool (goesL r o))
theorem flatMap_snoc {α β : Type} (g : α → List β) {l : List α} {j : Nat} {x : α} (h : l[j]? = some x) : (l.take (j + 1)).flatMap g = (l.take j).flatMap g ++ g x := by
  rw [List.take_add_one, h, List.flatMap_append]
  simp
section
variable {P : Program} {w : World} {K : PySem.W.Frag} {mg : Str → Option Value} {base : Heap} {f C : Addr} {fd : FuncData} {k : Nat}
theorem ok_law_first (F : Fun K "_law_first" "_law_first" s_law_first f fd) : FnOk P w K mg base CX0 (k + 1) f fd ["_law_order", "_law_lot"] (spS w Sp_first_in) := by
  refine okD F sc_law_first (fun ss s ⟨o, l, a, e, _⟩ => by rw [e]; exact ⟨rfl, no2⟩) (fun cdv A outer sh H E B ss s hr ⟨o, l, a, e, ho, ha, es⟩ => ?_)
  subst e es
  refine hs_one (hs_ret (dN (dixd (dfz (dlc1 2 PyData.int (fun x => decide (x ∈ l)) (fun x => .int x) sc_law_first.nd (iseq (dvar 0)) (fun x hx => pts_one (tC (cin (dvar 2) (dvar 1)))) (fun x hx hf => dvar 2) (by omega))) dint ?_)) rfl)
  refine atI_head ?_
  unfold firstIn at ha
  rw [List.head?_map, ha]
  rfl
theorem ok_law_lots (M : Mg mg) (F : Fun K "_law_lots" "_law_lots" s_law_lots f fd) : FnOk P w K mg base CX0 (k + 1) f fd ["_law_m", "_law_least"] (spS w Sp_law_lots) := by
  refine okD F sc_law_lots (fun ss s ⟨n, hn, e, _⟩ => by rw [e]; exact ⟨rfl, no2⟩) (fun cdv A outer sh H E B ss s hr ⟨n, hn, e, es⟩ => ?_)
  subst e es
  have h4 : 2 ≤ n ∧ n ≤ 4 := by simp at hn; omega
  refine hs_then (hs_set 2 (dN (dlst (ds := [dI []]) (acons (dtup (ds := []) anil) anil))) sc_law_lots.nd) ?_
  refine hs_then (hs_forT (α := Int) 3 PyData.int (fun i => [.pu (.int n), .pu (.int 2), .pu (.list ((subsA i).map dI)), .un, .un]) (xs := rng 0 n) sc_law_lots.nd PassesOwn.never (ieq (irange1 M.range_ (acons (dvar 0) anil) (by omega)) (by rw [Int.toNat_natCast])) rfl fun i x hx => ?_) ?_
  · have hx2 : ((rng 0 n).map PyData.int)[i]? = some (.int x) := by rw [List.getElem?_map, hx]; rfl
    obtain ⟨hi, ex⟩ := rng_at hx2
    cases ex
    have hsm := subs_small i (by simp; omega)
    refine hss_post (hs_one (hs_set 2 (dN (dcat (ds := (subsA i).map dI) (es := (subsA i).map fun l => dI (l ++ [0 + (i : Int)])) (dvar 2) (deqT (dfz (dlc1 (α := Lot) 4 dI (fun _ => true) (fun l => dI (l ++ [0 + (i : Int)])) sc_law_lots.nd (iseq (dvar 2)) (fun _ _ => pts0) (fun l hl _ => deqT (dcatT (dvar 4) (dtup (ds := [.int (0 + (i : Int))]) (acons (dvar 3) anil) (hl := by simp)) (by have := hsm.2 l hl; rw [List.length_map]; simp; omega)) (by rw [dI, List.map_append]; rfl)) (by omega))) (by rw [filt_true])) (by rw [List.length_map, List.length_map]; omega))) sc_law_lots.nd)) fun ρ' e => ?_
    subst e
    refine Up.to (ρ' := _) ?_ rfl
    have e0 : (0 : Int) + (i : Int) = i := by omega
    show Fgt [_, _, Sl.pu (.list ((subsA i).map dI ++ (subsA i).map fun l => dI (l ++ [0 + (i : Int)]))), _, _] [_, _, Sl.pu (.list ((subsA (i + 1)).map dI)), _, _]
    rw [e0, show subsA (i + 1) = subsA i ++ (subsA i).map fun l => l ++ [(i : Int)] from rfl, List.map_append, List.map_map]
    exact .keep (.keep (.keep (.drop (.keep .nil))))
  · rw [rng_length]
    have hsm := subs_small n (by simp; omega)
    refine hs_one (hs_ret (dsorted hr M.sorted_ (dfz (dlc1 (α := Lot) 4 dI (fun l => decide ((2 : Int) ≤ (l.length : Int))) dI sc_law_lots.nd (iseq (dvar 2)) (fun l _ => pts_one (deqP (tC (cge (dlen M.len_ (dvar 4)) (dvar 1))) (by rw [List.length_map]))) (fun _ _ _ => dvar 4) (by omega))) ?_) rfl)
    refine so_lots (subs_lots n hn) (lots_sorted n hn) (Nat.le_trans (List.length_filter_le _ _) (by omega)) fun l hl => ?_
    have := (List.mem_filter.mp hl).2
    intro z
    rw [z] at this
    simp at this
theorem ok_law_orders (M : Mg mg) (F : Fun K "_law_orders" "_law_orders" s_law_orders f fd) : FnOk P w K mg base CX0 (k + 1) f fd ["_law_m"] (spS w Sp_law_orders) := by
  refine okD F sc_law_orders (fun ss s ⟨n, hn, e, _⟩ => by rw [e]; exact ⟨rfl, no1⟩) (fun cdv A outer sh H E B ss s hr ⟨n, hn, e, es⟩ => ?_)
  subst e es
  have h4 : 2 ≤ n ∧ n ≤ 4 := by simp at hn; omega
  refine hs_then (hs_set 1 (dN (dlst (ds := [dI []]) (acons (dtup (ds := []) anil) anil))) sc_law_orders.nd) ?_
  refine hs_then (hs_forT (α := Int) 2 PyData.int (fun i => [.pu (.int n), .pu (.list ((ordA n i).map dI)), .un, .un, .un, .un]) (xs := rng 0 n) sc_law_orders.nd PassesOwn.never (ieq (irange1 M.range_ (acons (dvar 0) anil) (by omega)) (by rw [Int.toNat_natCast])) rfl fun i x hx => ?_) ?_
  · have hx2 : ((rng 0 n).map PyData.int)[i]? = some (.int x) := by rw [List.getElem?_map, hx]; rfl
    obtain ⟨hi, ex⟩ := rng_at hx2
    cases ex
    have hsm := ordA_small n hn i (by simp; omega)
    have hsm1 := ordA_small n hn (i + 1) (by simp; omega)
    let g : Lot → List Lot := fun o => ((rng 0 n).filter fun a => !decide (a ∈ o)).map fun a => o ++ [a]
    have htk : ∀ j, ((ordA n i).take j).flatMap g = (((ordA n i).take j).flatMap g) := fun _ => rfl
    refine hs_then (hs_set 3 (dN (dlst (ds := []) anil)) sc_law_orders.nd) ?_
    refine hs_then (hs_forT (α := Lot) 4 dI (fun j => [.pu (.int n), .pu (.list ((ordA n i).map dI)), .pu (.int (0 + (i : Int))), .pu (.list ((((ordA n i).take j).flatMap g).map dI)), .un, .un]) sc_law_orders.nd PassesOwn.never (iseq (dvar 1)) rfl fun j o ho => ?_) ?_
    · have e1 := flatMap_snoc g ho
      have hl4 := hsm.2 o (List.mem_of_getElem? ho)
      have hle : (((ordA n i).take j).flatMap g).length ≤ 24 := by
        refine Nat.le_trans ?_ hsm1.1
        show _ ≤ ((ordA n i).flatMap g).length
        rw [← List.take_append_drop j (ordA n i), List.flatMap_append, List.length_append, List.take_append_drop]
        omega
      have hgl : (g o).length ≤ 4 := by
        show (((rng 0 n).filter fun a => !decide (a ∈ o)).map fun a => o ++ [a]).length ≤ 4
        rw [List.length_map]
        refine Nat.le_trans (List.length_filter_le _ _) ?_
        rw [rng_length]; omega
      refine hss_post (hs_one (hs_set 3 (dN (dcat (ds := (((ordA n i).take j).flatMap g).map dI) (es := (g o).map dI) (dvar 3) (deqT (dfz (dlc1 (α := Int) 5 PyData.int (fun a => !decide (a ∈ o)) (fun a => dI (o ++ [a])) (xs := rng 0 n) sc_law_orders.nd (ieq (irange1 M.range_ (acons (dvar 0) anil) (by omega)) (by rw [Int.toNat_natCast])) (fun a _ => pts_one (tC (cnin (dvar 5) (dvar 4)))) (fun a ha _ => deqT (dcatT (dvar 4) (dtup (ds := [.int a]) (acons (dvar 5) anil) (hl := by simp)) (by rw [List.length_map]; simp; omega)) (by rw [dI, List.map_append]; rfl)) (by rw [rng_length]; omega))) (by show _ = Sl.pu (.list ((g o).map dI)); rw [show (g o).map dI = ((rng 0 n).filter fun a => !decide (a ∈ o)).map fun a => dI (o ++ [a]) by rw [List.map_map]; rfl])) (by rw [List.length_map, List.length_map]; omega))) sc_law_orders.nd)) fun ρ' e => ?_
      subst e
      refine Up.to (ρ' := _) ?_ rfl
      rw [e1]
      show Fgt [_, _, _, Sl.pu (.list ((((ordA n i).take j).flatMap g).map dI ++ (g o).map dI)), _, _] _
      rw [← List.map_append]
      exact .keep (.keep (.keep (.keep (.drop (.keep .nil)))))
    · rw [List.take_length]
      refine hss_post (hs_one (hs_set 1 (dN (dvar 3)) sc_law_orders.nd)) fun ρ' e => ?_
      subst e
      refine Up.to (ρ' := _) ?_ rfl
      exact .keep (.keep (.drop (.drop (.keep (.keep .nil)))))
  · rw [rng_length, ordA_all n hn]
    exact hs_one (hs_ret (dN (dvar 1)) rfl)
end
end GY
namespace GY
open PySem PySem.Spec PyProof.Rows L2 PySem.W

def pickedB (t : Told) (wh : Lot) : List Int := (t.filter fun p => (p.1.filter fun a => !decide (a ∈ wh)).isEmpty).map (·.2)
def barB (t : Told) (wh : Lot) : Bool := (wh.filter fun a => !decide (a ∈ pickedB t wh)).isEmpty
def barsL (n : Nat) (t : Told) : List Lot := (bySizeL n).filter (barB t)
abbrev lenE (l : Lot) : Int × Lot := ((l.length : Int), l)
theorem bySize_pw : ∀ n ∈ [2, 3, 4], (bySizeL n).Pairwise fun p q => dataLt (eN (lenE p)) (eN (lenE q)) = true := by
  intro n hn
  have : n = 2 ∨ n = 3 ∨ n = 4 := by simpa using hn
  rcases this with rfl | rfl | rfl <;> decide +kernel
def Sp_law_bars (ss : List Sl) (s : Sl) : Prop := ∃ (n : Nat) (t : Told), n ∈ [2, 3, 4] ∧ ss = [.pu (.int n), .pu (.tuple (t.map eP))] ∧ TV n t ∧ s = .ol ((barsL n t).map dI)
theorem eqv_nil1 {α : Type} (l : List α) : PyData.eqv (.list (l.map fun _ => PyData.int 1)) (.list []) = l.isEmpty := eqv_nil l
theorem sh_ones {α : Type} (l : List α) : SeqAt.shaped (.list (l.map fun _ => PyData.int 1)) = true := sh_list l (fun _ _ => by rw [PyData.canLay0]) fun _ _ => by rw [PyData.depth]; decide
theorem rs_tv : ∀ n ∈ [2, 3], ∀ j ∈ List.range ((lotsL n).length + 1), ∀ r ∈ ((lotsL n).take j).foldl (fun rs l => rulS l rs) [[]], r.map (·.1) = (lotsL n).take j := by decide +kernel
/-- lists for tuples: d becomes r, n deep -/
def LO : Nat → PyData → PyData → Prop
  | 0, d, r => ∃ i, d = .int i ∧ r = .int i
  | n + 1, d, r => (∃ i, d = .int i ∧ r = .int i) ∨ ∃ ds rs, isSeq d ds ∧ r = .list rs ∧ ds.length ≤ 1000 ∧ Paired (LO n) ds rs
def Sp_law_lists (n : Nat) (ss : List Sl) (s : Sl) : Prop := ∃ d r, ss = [.pu d] ∧ LO n d r ∧ s = .pu r
/-- data that the law compares: n deep -/
def SD : Nat → PyData → Prop
  | 0, d => (∃ i, d = .int i) ∨ (∃ b, d = .bool b) ∨ d = .none ∨ ∃ x, d = .str x ∧ SeqAt.shaped (.str x) = true
  | n + 1, d => ((∃ i, d = .int i) ∨ (∃ b, d = .bool b) ∨ d = .none ∨ ∃ x, d = .str x ∧ SeqAt.shaped (.str x) = true) ∨ ∃ ds, isSeq d ds ∧ ds.length ≤ 1000 ∧ ∀ e ∈ ds, SD n e
def Sp_law_same (n : Nat) (ss : List Sl) (s : Sl) : Prop := ∃ d, ss = [.pu d, .pu d] ∧ SD n d ∧ s = .pu (.bool true)
theorem kit_nl : kitB "NoneType" "list" = some false := by decide +kernel
theorem kit_nt : kitB "NoneType" "tuple" = some false := by decide +kernel
theorem kit_nb : kitB "NoneType" "bool" = some false := by decide +kernel
theorem kit_ns : kitB "NoneType" "str" = some false := by decide +kernel
theorem kit_bl : kitB "bool" "list" = some false := by decide +kernel
theorem kit_bt : kitB "bool" "tuple" = some false := by decide +kernel
theorem kit_bb : kitB "bool" "bool" = some true := by decide +kernel
theorem kit_bs : kitB "bool" "str" = some false := by decide +kernel
theorem kit_sl : kitB "str" "list" = some false := by decide +kernel
theorem kit_st : kitB "str" "tuple" = some false := by decide +kernel
theorem kit_sb : kitB "str" "bool" = some false := by decide +kernel
theorem kit_ss : kitB "str" "str" = some true := by decide +kernel
theorem kit_is : kitB "int" "str" = some false := by decide +kernel
section
variable {P : Program} {w : World} {K : PySem.W.Frag} {mg : Str → Option Value} {base : Heap} {f C : Addr} {fd : FuncData} {k : Nat}
theorem ok_law_all_rules (M : Mg mg) (Gl : Cal P w K mg base CX0 k "_law_lots" ["_law_m", "_law_least"] (spS w Sp_law_lots)) (F : Fun K "_law_all_rules" "_law_all_rules" s_law_all_rules f fd) : FnOk P w K mg base CX0 (k + 1) f fd ["_law_m"] (spS w Sp_law_all_rules) := by
  refine okD F sc_law_all_rules (fun ss s ⟨n, hn, e, _⟩ => by rw [e]; exact ⟨rfl, no1⟩) (fun cdv A outer sh H E B ss s hr ⟨n, hn2, e, es⟩ => ?_)
  subst e es
  have hn : n ∈ [2, 3, 4] := by simp at hn2 ⊢; omega
  let st : Nat → List Told := fun j => ((lotsL n).take j).foldl (fun rs l => rulS l rs) [[]]
  refine hs_then (hs_set 1 (dN (dlst (ds := [eRule []]) (acons (dtupX (ds := []) anil) anil))) sc_law_all_rules.nd) ?_
  refine hs_then (hs_forT (α := Lot) 2 dI (fun j => [.pu (.int n), .pu (.list ((st j).map eRule)), .un, .un, .un, .un]) sc_law_all_rules.nd PassesOwn.never (iseq (dfz (dcall Gl hr (acons (dvar 0) (acons dint anil)) ⟨n, hn, rfl, rfl⟩))) rfl fun j l hl => ?_) ?_
  · have hjl := (List.getElem?_eq_some_iff.mp hl).1
    obtain ⟨hne, hl4, _⟩ := lots_ne n hn l (List.mem_of_getElem? hl)
    have hsm := rules_small n hn2 j (by simp; omega)
    have hsm1 := rules_small n hn2 (j + 1) (by simp; omega)
    have e0 : st (j + 1) = rulS l (st j) := foldl_snoc (fun rs l => rulS l rs) [[]] hl
    let g : Told → List Told := fun r => l.map fun a => r ++ [(l, a)]
    refine hs_then (hs_set 3 (dN (dlst (ds := []) anil)) sc_law_all_rules.nd) ?_
    refine hs_then (hs_forT (α := Told) 4 eRule (fun q => [.pu (.int n), .pu (.list ((st j).map eRule)), .pu (dI l), .pu (.list ((((st j).take q).flatMap g).map eRule)), .un, .un]) sc_law_all_rules.nd PassesOwn.never (iseq (dvar 1)) rfl fun q r hrr => ?_) ?_
    · have e1 := flatMap_snoc g hrr
      have hrl := hsm.2 r (List.mem_of_getElem? hrr)
      have hle : (((st j).take q).flatMap g).length ≤ 24 := by
        refine Nat.le_trans ?_ hsm1.1
        show _ ≤ (st (j + 1)).length
        rw [e0]
        show _ ≤ ((st j).flatMap g).length
        rw [← List.take_append_drop q (st j), List.flatMap_append, List.length_append, List.take_append_drop]
        omega
      have hgl : (g r).length ≤ 4 := by show (l.map fun a => r ++ [(l, a)]).length ≤ 4; rw [List.length_map]; exact hl4
      refine hss_post (hs_one (hs_set 3 (dN (dcat (ds := (((st j).take q).flatMap g).map eRule) (es := (g r).map eRule) (dvar 3) (deqT (dfz (dlc1 (α := Int) 5 PyData.int (fun _ => true) (fun a => eRule (r ++ [(l, a)])) sc_law_all_rules.nd (iseq (dvar 2)) (fun _ _ => pts0) (fun a ha _ => deqT (dcatX (dvar 4) (dtupX (ds := [eR (l, a)]) (acons (dtup (ds := [dI l, dI [a]]) (acons (dvar 2) (acons (dtup (ds := [.int a]) (acons (dvar 5) anil) (hl := by simp)) anil)) (hl := by simp)) anil) (hl := by simp)) (by rw [List.length_map]; simp; omega)) (by show Sl.pu (xD (r.map eR ++ [eR (l, a)])) = _; rw [show eRule (r ++ [(l, a)]) = xD ((r ++ [(l, a)]).map eR) from rfl, List.map_append]; rfl)) (by omega))) (by rw [filt_true]; show _ = Sl.pu (.list ((g r).map eRule)); rw [show (g r).map eRule = l.map fun a => eRule (r ++ [(l, a)]) by rw [List.map_map]; rfl])) (by rw [List.length_map, List.length_map]; omega))) sc_law_all_rules.nd)) fun ρ' e => ?_
      subst e
      refine Up.to (ρ' := _) ?_ rfl
      rw [e1]
      show Fgt [_, _, _, Sl.pu (.list ((((st j).take q).flatMap g).map eRule ++ (g r).map eRule)), _, _] _
      rw [← List.map_append]
      exact .keep (.keep (.keep (.keep (.drop (.keep .nil)))))
    · rw [List.take_length]
      refine hss_post (hs_one (hs_set 1 (dN (dvar 3)) sc_law_all_rules.nd)) fun ρ' e => ?_
      subst e
      refine Up.to (ρ' := _) ?_ rfl
      rw [e0]
      exact .keep (.keep (.drop (.drop (.keep (.keep .nil)))))
  · show PSs _ _ (tH w B [_, Sl.pu (.list ((((lotsL n).take (lotsL n).length).foldl (fun rs l => rulS l rs) [[]]).map eRule)), _, _, _, _] _ _)
    rw [List.take_length]
    exact hs_one (hs_ret (dN (dvar 1)) rfl)
theorem ok_law_goes (M : Mg mg) (Gf : Cal P w K mg base CX0 k "_law_first" ["_law_order", "_law_lot"] (spS w Sp_first_in)) (F : Fun K "_law_goes" "_law_goes" s_law_goes f fd) : FnOk P w K mg base CX0 (k + 1) f fd ["_law_rule", "_law_order"] (spS w Sp_law_goes) := by
  refine okD F sc_law_goes (fun ss s ⟨n, r, o, _, e, _⟩ => by rw [e]; exact ⟨rfl, no2⟩) (fun cdv A outer sh H E B ss s hr ⟨n, r, o, hn, e, htv, ho, es⟩ => ?_)
  subst e es
  refine hs_one (hs_ret (dN (deqT (dC (ceqD hr (dfz (dlc2 (α := Lot × Int) 2 3 eR (fun p => dI p.1) (fun p => dI [p.2]) (fun p => decide (p.2 = fI o p.1)) (fun _ => .int 1) sc_law_goes.nd (iseq (dvar 0)) (fun _ _ => rfl)
    (fun p hp => pts_one (tC (ceqI (dixd (ds := [.int p.2]) (dvar 3) dint rfl) (dV (dcall Gf hr (acons (dvar 1) (acons (dvar 2) anil)) ⟨o, p.1, _, rfl, orders_len n hn o ho, first_all n hn o ho _ (htv.lot p hp), rfl⟩))))) (fun _ _ _ => dint) (by have := htv.len; omega))) (dlst (ds := []) anil) (sh_ones _) sh_nil)) (by rw [eqv_nil1]; rfl))) rfl)
theorem ok_law_bars (M : Mg mg) (Gl : Cal P w K mg base CX0 k "_law_lots" ["_law_m", "_law_least"] (spS w Sp_law_lots)) (F : Fun K "_law_bars" "_law_bars" s_law_bars f fd) : FnOk P w K mg base CX0 (k + 1) f fd ["_law_m", "_law_told_here"] (spS w Sp_law_bars) := by
  refine okD F sc_law_bars (fun ss s ⟨n, t, _, e, _⟩ => by rw [e]; exact ⟨rfl, no2⟩) (fun cdv A outer sh H E B ss s hr ⟨n, t, hn, e, ht, es⟩ => ?_)
  subst e es
  let st : Nat → List (Int × Lot) := fun j => (((lotsL n).take j).filter (barB t)).map lenE
  refine hs_then (hs_set 2 (dlstN (ds := []) anil) sc_law_bars.nd) ?_
  refine hs_then (hs_forT (α := Lot) 3 dI (fun j => [.pu (.int n), .pu (.tuple (t.map eP)), .ol ((st j).map eN), .un, .un, .un, .un, .un]) sc_law_bars.nd PassesOwn.never (iseq (dfz (dcall Gl hr (acons (dvar 0) (acons dint anil)) ⟨n, hn, rfl, rfl⟩))) rfl fun j wh hwh => ?_) ?_
  · obtain ⟨hne, hl4, _⟩ := lots_ne n hn wh (List.mem_of_getElem? hwh)
    have e1 : st (j + 1) = if barB t wh = true then st j ++ [lenE wh] else st j := by
      show (((lotsL n).take (j + 1)).filter (barB t)).map lenE = _
      rw [List.take_add_one, hwh, List.filter_append]
      by_cases h : barB t wh = true
      · rw [if_pos h, show (some wh).toList = [wh] from rfl, List.filter_cons, if_pos h, List.map_append]; rfl
      · rw [if_neg h, show (some wh).toList = [wh] from rfl, List.filter_cons, if_neg h, List.map_append]; simp; rfl
    have hst : (st j).length ≤ 20 := by
      show ((((lotsL n).take j).filter (barB t)).map lenE).length ≤ 20
      rw [List.length_map]
      have h1 := List.length_filter_le (barB t) ((lotsL n).take j)
      have h2 := lotsL_len n hn
      rw [List.length_take] at h1
      omega
    refine hs_then (hs_set 4 (dlc2 (α := Lot × Int) 5 6 eP (fun p => dI p.1) (fun p => .int p.2) (fun p => (p.1.filter fun a => !decide (a ∈ wh)).isEmpty) (fun p => .int p.2) sc_law_bars.nd (iseq (dvar 1)) (fun _ _ => rfl)
      (fun p hp => pts_one (deqP (tC (ceqD hr (dfz (dlc1 7 PyData.int (fun a => !decide (a ∈ wh)) (fun _ => .int 1) sc_law_bars.nd (iseq (dvar 5)) (fun _ _ => pts_one (tC (cnin (dvar 7) (dvar 3)))) (fun _ _ _ => dint) (by have := (lots_ne n hn _ (ht.lot p hp)).2.1; omega))) (dlst (ds := []) anil) (sh_ones _) sh_nil)) (eqv_nil1 _))) (fun _ _ _ => dvar 6) (by have := ht.len; omega)) sc_law_bars.nd) ?_
    have epk : ((t.filter fun p => (p.1.filter fun a => !decide (a ∈ wh)).isEmpty).map fun p => PyData.int p.2) = (pickedB t wh).map .int := by unfold pickedB; rw [List.map_map]; rfl
    refine hs_one (hs_if (b := barB t wh) (deqP (tC (ceqD hr (dfz (dlc1 6 PyData.int (fun a => !decide (a ∈ pickedB t wh)) (fun _ => .int 1) sc_law_bars.nd (iseq (dvar 3)) (fun _ _ => pts_one (tC (cninO (dvar 6) (deqT (dvar 4) (by rw [epk]))))) (fun _ _ _ => dint) (by omega))) (dlst (ds := []) anil) (sh_ones _) sh_nil)) (eqv_nil1 _)) (fun hb => ?_) fun hb => ?_)
    · refine hss_post (hs_one (hs_append 2 (ds := (st j).map eN) (d := eN (lenE wh)) (dtup (ds := [.int (wh.length : Int), dI wh]) (acons (deqT (dlen M.len_ (dvar 3)) (by rw [List.length_map])) (acons (dvar 3) anil)) (hl := by simp)) (by rw [List.length_map]; omega))) fun ρ' e => ?_
      subst e
      refine Up.to (ρ' := _) ?_ rfl
      rw [e1, if_pos hb, List.map_append]
      exact .keep (.keep (.keep (.drop (.drop (.keep (.keep (.keep .nil)))))))
    · refine hss_post hs_nil fun ρ' e => ?_
      subst e
      refine Up.to (ρ' := _) ?_ rfl
      rw [e1, if_neg (by rw [hb]; exact Bool.false_ne_true)]
      exact .keep (.keep (.keep (.drop (.drop (.keep (.keep (.keep .nil)))))))
  · have efin : st (lotsL n).length = ((lotsL n).filter (barB t)).map lenE := by show (((lotsL n).take (lotsL n).length).filter (barB t)).map lenE = _; rw [List.take_length]
    rw [efin]
    have hso : SortOk ((((lotsL n).filter (barB t)).map lenE).map eN) (((barsL n t).map lenE).map eN) := by
      refine so_eN (((bySize_lots n hn).symm.filter _).map _) ?_ ?_
      · exact List.pairwise_map.mpr ((bySize_pw n hn).sublist (List.filter_sublist ..))
      · rw [List.length_map]
        exact Nat.le_trans (List.length_filter_le _ _) (by have := lotsL_len n hn; omega)
    refine hs_one (hs_ret (deqN (dlc1 (α := Int × Lot) 7 eN (fun _ => true) (fun p => dI p.2) (xs := (barsL n t).map lenE) sc_law_bars.nd (iseq (dfz (dsortedO hr M.sorted_ (dvar 2) hso))) (fun _ _ => pts0) (fun p _ _ => dixd (ds := [.int p.1, dI p.2]) (dvar 7) dint rfl) ?_) (by rw [filt_true, List.map_map]; rfl)) rfl)
    rw [List.length_map]
    refine Nat.le_trans (List.length_filter_le _ _) ?_
    have h1 := (bySize_lots n hn).length_eq
    have h2 := lotsL_len n hn
    show (bySizeL n).length ≤ 1000
    unfold bySizeL
    omega
end
end GY
namespace GY
open PySem PySem.Spec PyProof.Rows L2 PySem.W

theorem cisN {X : Cx} {a : Expr} {B : Bs} {ρ : List Sl} {d : PyData} {j : Nat} {pos' : Pos} (ha : PE X a (tV X.w B ρ (.pu d))) : CB X B ρ .Is a (.Constant .none j pos') (isNoneD d) :=
  ccmp (s1 := .pu d) (s2 := .pu .none) op_isN ha dnon (fun x y F H Q f ox oy k => ⟨Rp.none_inv oy, by
    rw [isNone_rp ox]
    exact k _ F H (Gr.refl f) (Rp.bl _) fun _ z => by cases z⟩)
theorem zip_self_mem {ds : List PyData} {p : PyData × PyData} (h : p ∈ ds.zip ds) : p.1 = p.2 ∧ p.1 ∈ ds := by
  obtain ⟨i, hi⟩ := List.mem_iff_getElem?.mp h
  obtain ⟨x, y⟩ := p
  rw [List.getElem?_zip_eq_some] at hi
  exact ⟨Option.some.inj (hi.1.symm.trans hi.2), List.mem_of_getElem? hi.1⟩
theorem all_true {α : Type} (l : List α) : (l.map fun _ => true).all id = true := by simp
theorem sh_int (i : Int) : SeqAt.shaped (.int i) = true := by unfold SeqAt.shaped; rw [PyData.canLay0, PyData.depth]; rfl
theorem sh_bool (i : Bool) : SeqAt.shaped (.bool i) = true := by unfold SeqAt.shaped; rw [PyData.canLay0, PyData.depth]; rfl
theorem sh_none : SeqAt.shaped .none = true := by unfold SeqAt.shaped; rw [PyData.canLay0, PyData.depth]; rfl
theorem eqv_int (i : Int) : PyData.eqv (.int i) (.int i) = true := by rw [PyData.eqv]; simp
theorem eqv_bool (i : Bool) : PyData.eqv (.bool i) (.bool i) = true := by rw [PyData.eqv]; simp
theorem eqv_str (i : Str) : PyData.eqv (.str i) (.str i) = true := by
  have := eqv_refl_alike (.str i) (by rw [alike])
  exact this
section
variable {P : Program} {w : World} {K : PySem.W.Frag} {mg : Str → Option Value} {base : Heap} {f C : Addr} {fd : FuncData} {k : Nat}
theorem ok_law_lists (M : Mg mg) (hm : mg "_law_lists" = some (.ref f)) (hk : PySem.W.keepIn K (.ref f) = true) (hb : Binds K fd ["_law_matter"] []) (F : Fun K "_law_lists" "_law_lists" s_law_lists f fd) : ∀ n, FnOk P w K mg base CX0 (n + 1) f fd ["_law_matter"] (spS w (Sp_law_lists n)) := by
  intro n
  induction n with
  | zero =>
    refine okD F sc_law_lists (fun ss s ⟨d, r, e, _⟩ => by rw [e]; exact ⟨rfl, no1⟩) (fun cdv A outer sh H E B ss s hr ⟨d, r, e, ⟨i, ed, er⟩, es⟩ => ?_)
    subst e es ed er
    exact hs_one (hs_ret (dN (dif (tcmp (disi2 (d := .int i) M.isinstance_ (dvar 0) M.list_ boot_list' M.tuple_ boot_tuple' kit_il kit_it)) (fun z => by cases z) fun _ => dvar 0)) rfl)
  | succ n ih =>
    have G : Cal P w K mg base CX0 (n + 1) "_law_lists" ["_law_matter"] (spS w (Sp_law_lists n)) := ⟨f, fd, hm, hk, hb, ih⟩
    refine okD F sc_law_lists (fun ss s ⟨d, r, e, _⟩ => by rw [e]; exact ⟨rfl, no1⟩) (fun cdv A outer sh H E B ss s hr ⟨d, r, e, h, es⟩ => ?_)
    subst e es
    rcases h with ⟨i, ed, er⟩ | ⟨ds, rs, hd, er, hl, hp⟩
    · subst ed er
      exact hs_one (hs_ret (dN (dif (tcmp (disi2 (d := .int i) M.isinstance_ (dvar 0) M.list_ boot_list' M.tuple_ boot_tuple' kit_il kit_it)) (fun z => by cases z) fun _ => dvar 0)) rfl)
    · subst er
      obtain ⟨ps, e1, e2, h3⟩ := paired_zip hp
      subst e1 e2
      have hlen : ps.length ≤ 1000 := by simpa using hl
      have body : ∀ (c : Bool) (c2 : Bool) (hcc : (c || c2) = true), kitB (tyName d) "list" = some c → kitB (tyName d) "tuple" = some c2 → PSs (cxOf CX0 P w K mg base n_law_lists "_law_lists" (defScope s_law_lists) f cdv A outer sh H E).nox (defBody s_law_lists) (tH w B (atN n_law_lists [.pu d]) (fun _ => False) (fun s' _ => s' = .pu (.list (ps.map Prod.snd)))) := by
        intro c c2 hcc k1 k2
        exact hs_one (hs_ret (dN (dif (tcmp (disi2 (d := d) M.isinstance_ (dvar 0) M.list_ boot_list' M.tuple_ boot_tuple' k1 k2)) (fun _ => deqT (dfz (dlc1 (α := PyData × PyData) 1 Prod.fst (fun _ => true) Prod.snd sc_law_lists.nd (iseq (dvar 0) hd) (fun x hx => pts0) (fun p hpp _ =>
              dV (dcall G hr (acons (dvar 1) anil) ⟨p.1, p.2, rfl, h3 p hpp, rfl⟩)) hlen)) (by rw [filt_true])) fun z => by rw [hcc] at z; cases z)) rfl)
      rcases hd with hd | hd
      · subst hd; exact body true false rfl kit_ll kit_lt
      · subst hd; exact body false true rfl kit_tl kit_tt
theorem ok_law_same (M : Mg mg) (hm : mg "_law_same" = some (.ref f)) (hk : PySem.W.keepIn K (.ref f) = true) (hb : Binds K fd ["_law_got", "_law_goal"] []) (F : Fun K "_law_same" "_law_same" s_law_same f fd) : ∀ n, FnOk P w K mg base CX0 (n + 1) f fd ["_law_got", "_law_goal"] (spS w (Sp_law_same n)) := by
  -- without items
  have atom : ∀ (k : Nat) (cdv : Value) (A : Around) (outer : List Env) (sh : Shared) (H : Hp) (E : XK) (B : Bs) (d : PyData), Room k (A.deeper (envOfC "_law_same" (defScope s_law_same) sh.heap.objs.size f cdv)) →
      ((∃ i, d = .int i) ∨ (∃ b, d = .bool b) ∨ d = .none ∨ ∃ x, d = .str x ∧ SeqAt.shaped (.str x) = true) →
      PSs (cxOf CX0 P w K mg base n_law_same "_law_same" (defScope s_law_same) f cdv A outer sh H E).nox (defBody s_law_same) (tH w B (atN n_law_same [.pu d, .pu d]) (fun _ => False) (fun s' _ => s' = .pu (.bool true))) := by
    intro k cdv A outer sh H E B d hr h
    -- what is no number
    have oth : ∀ (c1 : kitB (tyName d) "list" = some false) (c2 : kitB (tyName d) "tuple" = some false) (cb cs : Bool) (k1 : kitB (tyName d) "bool" = some cb) (k2 : kitB (tyName d) "str" = some cs) (hy : (isNoneD d || (cb || cs)) = true) (sh' : SeqAt.shaped d = true) (ev : PyData.eqv d d = true),
        PSs (cxOf CX0 P w K mg base n_law_same "_law_same" (defScope s_law_same) f cdv A outer sh H E).nox (defBody s_law_same) (tH w B (atN n_law_same [.pu d, .pu d]) (fun _ => False) (fun s' _ => s' = .pu (.bool true))) := by
      intro c1 c2 cb cs k1 k2 hy sh' ev
      refine hs_then (hs_if (tcmp (disi2 (d := d) M.isinstance_ (dvar 1) M.list_ boot_list' M.tuple_ boot_tuple' c1 c2)) (fun z => by cases z) fun _ => hs_nil) ?_
      refine hs_cons (M := fun _ => False) (hs_if (PW.pt (tor2 (tC (cisN (dvar 1))) fun _ => tor1 (tcmp (disi2 (d := d) M.isinstance_ (dvar 1) M.bool_ boot_bool' M.str_ boot_str' k1 k2)))) (fun _ => ?_) fun z => by rw [hy] at z; cases z) fun _ z => z.elim
      refine hs_one (hs_ret (dN (deqT (dand2 (dC (ceqD hr (dvar 0) (dvar 1) sh' sh')) fun _ => dand2 (dC (ceqBo (disi (d := d) M.isinstance_ (dvar 0) M.bool_ boot_bool' k1) (disi (d := d) M.isinstance_ (dvar 1) M.bool_ boot_bool' k1))) fun _ => done1 (dC (ceqBo (disN (dvar 0)) (disN (dvar 1))))) ?_)) rfl)
      rw [ev]
      simp
    rcases h with ⟨i, rfl⟩ | ⟨b, rfl⟩ | rfl | ⟨x, rfl, hx⟩
    · refine hs_then (hs_if (tcmp (disi2 (d := .int i) M.isinstance_ (dvar 1) M.list_ boot_list' M.tuple_ boot_tuple' kit_il kit_it)) (fun z => by cases z) fun _ => hs_nil) ?_
      refine hs_then (hs_if (PW.pt (tor2 (tC (cisN (d := .int i) (dvar 1))) fun _ => tor1 (tcmp (disi2 (d := .int i) M.isinstance_ (dvar 1) M.bool_ boot_bool' M.str_ boot_str' kit_ib kit_is)))) (fun z => by cases z) fun _ => hs_nil) ?_
      refine hs_one (hs_ret (dN (deqT (dand2 (disi (d := .int i) M.isinstance_ (dvar 0) M.int_ boot_int' kit_ii) fun _ => dand2 (dnot (disi (d := .int i) M.isinstance_ (dvar 0) M.bool_ boot_bool' kit_ib)) fun _ => done1 (dC (ceqI (dvar 0) (dvar 1)))) (by simp))) rfl)
    · exact oth kit_bl kit_bt true false kit_bb kit_bs rfl (sh_bool b) (eqv_bool b)
    · exact oth kit_nl kit_nt false false kit_nb kit_ns rfl sh_none rfl
    · exact oth kit_sl kit_st false true kit_sb kit_ss rfl hx (eqv_str x)
  intro n
  induction n with
  | zero =>
    refine okD F sc_law_same (fun ss s ⟨d, e, _⟩ => by rw [e]; exact ⟨rfl, no2⟩) (fun cdv A outer sh H E B ss s hr ⟨d, e, h, es⟩ => ?_)
    subst e es
    exact atom 0 cdv A outer sh H E B d hr h
  | succ n ih =>
    have G : Cal P w K mg base CX0 (n + 1) "_law_same" ["_law_got", "_law_goal"] (spS w (Sp_law_same n)) := ⟨f, fd, hm, hk, hb, ih⟩
    refine okD F sc_law_same (fun ss s ⟨d, e, _⟩ => by rw [e]; exact ⟨rfl, no2⟩) (fun cdv A outer sh H E B ss s hr ⟨d, e, h, es⟩ => ?_)
    subst e es
    rcases h with h | ⟨ds, hd, hl, hall⟩
    · exact atom (n + 1) cdv A outer sh H E B d hr h
    · have body : ∀ (c c2 : Bool) (hcc : (c || c2) = true), kitB (tyName d) "list" = some c → kitB (tyName d) "tuple" = some c2 →
          (∀ {X : Cx} {B : Bs} {ρ : List Sl} {a b : Expr} {p pos tpos : Pos} {elts : List Expr} {kk : Nat}, X.mg "zip" = none → PE X a (tV X.w B ρ (.pu d)) → PE X b (tV X.w B ρ (.pu d)) → Gl X "zip" → starEach [a, b] X.env = (false, eval a X.env) :: starEach [b] X.env → starEach [b] X.env = (false, eval b X.env) :: starEach [] X.env → (backTo pos (starEach [b] X.env)).any (·.1) = false → PI X (.Tuple elts kk tpos) (.Call (.Name "zip" p) [a, b] [] pos) (tI X.w B ρ (zipD ds ds))) →
          PSs (cxOf CX0 P w K mg base n_law_same "_law_same" (defScope s_law_same) f cdv A outer sh H E).nox (defBody s_law_same) (tH w B (atN n_law_same [.pu d, .pu d]) (fun _ => False) (fun s' _ => s' = .pu (.bool true))) := by
        intro c c2 hcc k1 k2 hz
        refine hs_cons (M := fun _ => False) (hs_if (tcmp (disi2 (d := d) M.isinstance_ (dvar 1) M.list_ boot_list' M.tuple_ boot_tuple' k1 k2)) (fun _ => ?_) fun z => by rw [hcc] at z; cases z) fun _ z => z.elim
        refine hs_then (hs_if (b := false) (PW.pt (deqW (tor2 (tC (cneB (disi (d := d) M.isinstance_ (dvar 0) M.list_ boot_list' k1) (disi (d := d) M.isinstance_ (dvar 1) M.list_ boot_list' k1))) fun _ => tor1 (tC (cneB (disi (d := d) M.isinstance_ (dvar 0) M.tuple_ boot_tuple' k2) (disi (d := d) M.isinstance_ (dvar 1) M.tuple_ boot_tuple' k2)))) (by simp))) (fun z => by cases z) fun _ => hs_nil) ?_
        refine hs_one (hs_ret (dN (deqT (dand2 (dC (ceqI (dlen M.len_ (dvar 0) hd) (dlen M.len_ (dvar 1) hd))) fun _ => done1 (dall rfl M.all_ (bs := (ds.zip ds).map fun _ => true) (deqT (dfz (dlc2 (α := PyData × PyData) 2 3 (fun p => .tuple [p.1, p.2]) Prod.fst Prod.snd (fun _ => true) (fun _ => .bool true) sc_law_same.nd (hz M.zip_ (dvar 0) (dvar 1) rfl rfl rfl rfl) (fun _ _ => rfl) (fun _ _ => pts0) (fun p hp _ => dV (dcall G hr (acons (dvar 2) (acons (dvar 3) anil)) ⟨p.1, by rw [← (zip_self_mem hp).1], hall _ (zip_self_mem hp).2, rfl⟩)) (by rw [List.length_zip]; omega))) (by rw [filt_true, List.map_map]; rfl)))) (by rw [all_true]; simp))) rfl)
      rcases hd with hd | hd
      · subst hd
        exact body true false rfl kit_ll kit_lt fun hm ha hb hg h1 h2 h3 => izipL hm ha hb hg h1 h2 h3
      · subst hd
        exact body false true rfl kit_tl kit_tt fun hm ha hb hg h1 h2 h3 => izipT hm ha hb hg h1 h2 h3
end
end GY
namespace GY
open PySem PySem.Spec PyProof.Rows L2

/-! ## sets of (int, tuple of ints) -/
abbrev PKey := Int × List Int
def nkP (k : PKey) : NestedKey := .tup [.num k.1, .tup (k.2.map .num)]
def phash (k : PKey) : Int := reduceHash (Builtin.Tuple.tupleHashOf [hashInt k.1, reduceHash (Builtin.Tuple.tupleHashOf (k.2.map hashInt))])
theorem hashes_num (w : World) (l : List Int) : NestedKey.hashes w (l.map .num) = l.map hashInt := by
  induction l with
  | nil => rfl
  | cons x l ih => rw [List.map_cons, List.map_cons, NestedKey.hashes, ih, NestedKey.hash]
theorem hash_nkP (w : World) (k : PKey) : (nkP k).hash w = phash k := by
  unfold nkP phash
  rw [NestedKey.hash, NestedKey.hashes, NestedKey.hashes, NestedKey.hashes, NestedKey.hash, NestedKey.hash, hashes_num]
theorem depthAll_num (l : List Int) : NestedKey.depthAll (l.map .num) = 0 := by
  induction l with
  | nil => rfl
  | cons x l ih => rw [List.map_cons, NestedKey.depthAll, ih, NestedKey.depth]; rfl
theorem depth_nkP (k : PKey) : (nkP k).depth = 2 := by
  unfold nkP
  rw [NestedKey.depth, NestedKey.depthAll, NestedKey.depthAll, NestedKey.depthAll, NestedKey.depth, NestedKey.depth, depthAll_num]
  rfl
section
variable {P : Program} {w : World} {A : Around} {E : Value → Shared → Prop} {s : Shared}
/-- the tuple at b is (n, tuple of l) -/
def IsP (P : Program) (w : World) (h : Heap) (k : PKey) (b : Addr) : Prop := ∃ (o : Obj) (t : Tok) (c : Addr) (m : Nat), h.get? b = some o ∧ o.cls = .type "tuple" ∧ o.data = .seq #[Value.int k.1 t, .ref c] m ∧ IsT P w h k.2 c
theorem nested_ints {h : Heap} {k : List Int} {vs : List Value} (x : ItemsAre (intKind P w) k vs) : NestedAll h (k.map .num) vs := by
  induction x with
  | nil => exact .nil
  | @cons k0 v ks vs h1 _ ih =>
    obtain ⟨t, e⟩ := Value.isInt_shape h1
    rw [e]
    exact .cons (.int _ _) ih
theorem IsP.nested {h : Heap} {k : PKey} {b : Addr} (x : IsP P w h k b) : NestedIs h (nkP k) (.ref b) := by
  obtain ⟨o, t, c, m, ho, hc, hd, o', items, n, ho', hc', hd', hi⟩ := x
  exact .tup ho hc hd (.cons (.int _ _) (.cons (.tup ho' hc' hd' (nested_ints hi)) .nil))
theorem IsP.inj {h : Heap} {k k' : PKey} {b : Addr} (x : IsP P w h k b) (y : IsP P w h k' b) : k = k' := by
  obtain ⟨o, t, c, m, ho, hc, hd, r⟩ := x
  obtain ⟨o', t', c', m', ho', hc', hd', r'⟩ := y
  rw [ho] at ho'
  cases ho'
  rw [hd] at hd'
  injection hd' with e1 _
  have e2 := congrArg Array.toList e1
  injection e2 with e3 e4
  injection e3 with e3
  injection e4 with e4 _
  injection e4 with e4
  subst e4
  exact Prod.ext e3 (r.inj r')
theorem IsP.keep {h h' : Heap} {k : PKey} {b : Addr} (x : IsP P w h k b) (hk : ∀ c o, h.get? c = some o → h'.get? c = some o) : IsP P w h' k b := by
  obtain ⟨o, t, c, m, ho, hc, hd, r⟩ := x
  exact ⟨o, t, c, m, hk _ _ ho, hc, hd, isT_keep r hk⟩
theorem IsP.same {h h' : Heap} {k : PKey} {a b : Addr} {o : Obj} {es : Array (Int × Value)} {ep : Nat} {t : SetTable} (x : IsP P w h k b) (ho : h.get? a = some o) (hd : o.data = .set es ep t) (hs : Heap.SameBut a h h') : IsP P w h' k b := by
  obtain ⟨o', t', c, m, ho', hc', hd', r⟩ := x
  have hne : b ≠ a := fun e => by
    subst e
    rw [ho] at ho'
    cases ho'
    rw [hd] at hd'
    exact nomatch hd'
  exact ⟨o', t', c, m, (hs.2 b hne).trans ho', hc', hd', isT_same r ho hd hs⟩
theorem IsP.hash {k : PKey} {b : Addr} {Q : Int → Shared → Prop} (x : IsP P w s.heap k b) (hu : A.units + 2 < cLine) (h : Q (phash k) { s with toks := s.toks + (nkP k).draws }) : wpAny (model P w) A (pyHash (.ref b)) Q E s := by
  refine pyHash_key (nkP k) _ A s Q x.nested (by rw [depth_nkP]; exact hu) ?_
  rw [hash_nkP]
  exact h
theorem IsP.eqb {k k' : PKey} {b b' : Addr} {Q : Bool → Shared → Prop} (x : IsP P w s.heap k b) (y : IsP P w s.heap k' b') (hu : A.units + 2 < cLine) (e : k = k') (h : Q true s) : wpAny (model P w) A (eqBool (.ref b) (.ref b')) Q E s := by
  subst e
  refine eqAt_key (nkP k) (nkP k) A s _ _ x.nested y.nested (by rw [depth_nkP]; simpa using hu) _ _ _ _ ?_
  rw [NestedKey.beq_self]
  exact h
theorem IsP.ofA {k : PKey} {b : Addr} {Q : Bool → Shared → Prop} (x : IsP P w s.heap k b) (h : Q false s) : wpAny (model P w) A (ofAClassStatement 8 (.ref b)) Q E s := by
  obtain ⟨o, t, c, m, ho, hc, hd, r⟩ := x
  have hT : s.TypeIs (.ref b) "tuple" := ⟨o, ho, hc⟩
  have step : ∀ (n : Nat) (c : Addr) (vs : Array Value) (m : Nat) (o : Obj), s.heap.get? c = some o → o.cls = .type "tuple" → o.data = .seq vs m → (∀ v ∈ vs.toList, ∀ (Q : Bool → Shared → Prop), Q false s → wpAny (model P w) A (ofAClassStatement n v) Q E s) → ∀ (Q : Bool → Shared → Prop), Q false s → wpAny (model P w) A (ofAClassStatement (n + 1) (.ref c)) Q E s := by
    intro n c vs m o ho hc hd hv Q h
    have hT : s.TypeIs (.ref c) "tuple" := ⟨o, ho, hc⟩
    unfold ofAClassStatement
    refine wpAny_bind (wpAny_typeOf hT ?_)
    dsimp only
    have e : (("tuple" : String) == "tuple") = true := by decide
    simp only [e, if_true, Bool.not_true, Bool.false_eq_true, if_false]
    try refine wpAny_bind (wpAny_pure ?_)
    try simp only [Bool.not_true, Bool.false_eq_true, if_false]
    refine wpAny_bind (wpAny_seqItems ho hd ?_)
    dsimp only
    refine wpAny_bind ?_
    rw [← Array.forIn_toList]
    refine wpAny_forIn_list _ (fun rest r s' => r.1 = none ∧ s' = s ∧ ∀ v ∈ rest, v ∈ vs.toList) _ ?_ ?_ _ _ ⟨rfl, rfl, fun _ z => z⟩
    · rintro v rest r s' ⟨hr, rfl, hall⟩
      refine wpAny_bind (hv v (hall v List.mem_cons_self) _ ?_)
      simp only [Bool.false_eq_true, if_false]
      exact wpAny_pure ⟨rfl, rfl, fun u hu' => hall u (List.mem_cons_of_mem _ hu')⟩
    · rintro ⟨r1, r2⟩ s' ⟨hr, rfl, _⟩
      simp only at hr
      subst hr
      exact wpAny_pure h
  refine step 7 b _ m o ho hc hd (fun v hv => ?_) Q h
  rcases List.mem_cons.mp hv with e | hv
  · subst e
    intro Q h
    rw [ofAClass_int]
    exact wpAny_pure h
  · rw [List.mem_singleton.mp hv]
    obtain ⟨o', items, n, ho', hc', hd', hi⟩ := r
    refine step 6 c _ n o' ho' hc' hd' (fun v hv => ?_)
    obtain ⟨i, t', rfl⟩ := items_int hi v hv
    intro Q h
    rw [ofAClass_int]
    exact wpAny_pure h
theorem IsP.hashBy {k : PKey} {b : Addr} {Q : Bool → Shared → Prop} (x : IsP P w s.heap k b) (h : Q true s) : wpAny (model P w) A (hashByValue 8 (.ref b)) Q E s := by
  obtain ⟨o, t, c, m, ho, hc, hd, r⟩ := x
  have step : ∀ (n : Nat) (c : Addr) (vs : Array Value) (m : Nat) (o : Obj), s.heap.get? c = some o → o.cls = .type "tuple" → o.data = .seq vs m → (∀ v ∈ vs.toList, ∀ (Q : Bool → Shared → Prop), Q true s → wpAny (model P w) A (hashByValue n v) Q E s) → ∀ (Q : Bool → Shared → Prop), Q true s → wpAny (model P w) A (hashByValue (n + 1) (.ref c)) Q E s := by
    intro n c vs m o ho hc hd hv Q h
    have hT : s.TypeIs (.ref c) "tuple" := ⟨o, ho, hc⟩
    unfold hashByValue
    refine wpAny_bind (wpAny_specialOf hT F.slot_tuple_hash.lookup ?_)
    refine wpAny_bind (wpAny_seqItems ho hd ?_)
    refine wpAny_bind ?_
    show wpAny _ _ (forIn vs _ _) _ _ s
    rw [← Array.forIn_toList]
    refine wpAny_forIn_list _ (fun rest r s' => r.1 = none ∧ s' = s ∧ ∀ v ∈ rest, v ∈ vs.toList) _ ?_ ?_ _ _ ⟨rfl, rfl, fun _ z => z⟩
    · rintro v rest r s' ⟨hr, rfl, hall⟩
      refine wpAny_bind (hv v (hall v List.mem_cons_self) _ ?_)
      simp only [Bool.not_true, Bool.false_eq_true, if_false]
      exact wpAny_pure ⟨rfl, rfl, fun u hu' => hall u (List.mem_cons_of_mem _ hu')⟩
    · rintro ⟨r1, r2⟩ s' ⟨hr, rfl, _⟩
      simp only at hr
      subst hr
      exact wpAny_pure h
  refine step 7 b _ m o ho hc hd (fun v hv => ?_) Q h
  rcases List.mem_cons.mp hv with e | hv
  · subst e
    intro Q h
    rw [hashBy_int]
    exact wpAny_pure h
  · rw [List.mem_singleton.mp hv]
    obtain ⟨o', items, n, ho', hc', hd', hi⟩ := r
    refine step 6 c _ n o' ho' hc' hd' (fun v hv => ?_)
    obtain ⟨i, t', rfl⟩ := items_int hi v hv
    intro Q h
    rw [hashBy_int]
    exact wpAny_pure h
end
end GY
namespace GY
open PySem PySem.Spec PyProof.Rows L2

/-! ## a small set of (int, tuple of ints): no relay, no two keys of one hash -/
def rowsP (L : List (Addr × PKey)) : List (Int × Value) := L.map fun p => (phash p.2, Value.ref p.1)
structure SP (P : Program) (w : World) (h : Heap) (a : Addr) (L : List (Addr × PKey)) (es : Array (Int × Value)) (ep : Nat) (t : SetTable) : Prop where
  ob : ∃ o, h.get? a = some o ∧ o.ExactSet ∧ o.data = .set es ep t
  rows : es.toList = rowsP L
  tab : TabOk t (L.map fun p => phash p.2)
  nd : (L.map (·.2)).Nodup
  tup : ∀ p ∈ L, IsP P w h p.2 p.1
  plain : t.plain = true
  led : w.params.followText "set-order" = true ∨ t.led = true
  mask : t.mask = 7
section
variable {P : Program} {w : World} {A : Around} {E : Value → Shared → Prop} {s : Shared}
variable {a : Addr} {L : List (Addr × PKey)} {es : Array (Int × Value)} {ep : Nat} {t : SetTable}
theorem SP.size {h : Heap} (R : SP P w h a L es ep t) : es.size = L.length := by
  have h := congrArg List.length R.rows
  unfold rowsP at h
  rw [Array.length_toList, List.length_map] at h
  exact h
theorem SP.fits {h : Heap} (R : SP P w h a L es ep t) (hl : L.length ≤ 7) : t.fits es.size = true := by
  have h1 := R.tab.sz
  rw [List.length_map] at h1
  have h2 := R.size
  have h3 := R.mask
  unfold SetTable.fits SetTable.fill
  rw [R.tab.dm, Bool.and_eq_true, beq_iff_eq, decide_eq_true_eq]
  show t.place.size = es.size ∧ t.place.size + 0 ≤ t.mask
  omega
theorem SP.entry {h : Heap} (R : SP P w h a L es ep t) {i : Nat} {p : Addr × PKey} (h : L[i]? = some p) : es[i]? = some (phash p.2, Value.ref p.1) := by
  rw [← Array.getElem?_toList, R.rows]
  unfold rowsP
  rw [List.getElem?_map, h, Option.map_some]
theorem SP.gw {h : Heap} (R : SP P w h a L es ep t) : ¬ t.gaveWay = true := by
  unfold SetTable.gaveWay
  rw [mask_odd R.tab.mok]
  decide
theorem SP.keep {h h' : Heap} (R : SP P w h a L es ep t) (hk : ∀ c o, h.get? c = some o → h'.get? c = some o) : SP P w h' a L es ep t := by
  obtain ⟨o, ho, r⟩ := R.ob
  exact ⟨⟨o, hk _ _ ho, r⟩, R.rows, R.tab, R.nd, fun p hp => (R.tup p hp).keep hk, R.plain, R.led, R.mask⟩
theorem SP.seen (R : SP P w s.heap a L es ep t) {x : Addr} {k : PKey} (hx : IsP P w s.heap k x) {ys : List Value} (hy : ∀ y ∈ ys, ∃ k' c, y = Value.ref c ∧ IsP P w s.heap k' c) {Q : Bool → Shared → Prop} (h : Q false s) :
    wpAny (model P w) A (searchCouldBeSeen (.ref x) ys) Q E s := by
  have quiet : ∀ {k : PKey} {b : Addr} {Q : Bool → Shared → Prop}, IsP P w s.heap k b → Q true s → wpAny (model P w) A (eqIsQuiet 8 (.ref b)) Q E s := fun {k b Q} x h =>
    quiet_key (nkP k) _ 8 s x.nested (by rw [depth_nkP]; decide) A E Q h
  unfold searchCouldBeSeen
  refine wpAny_bind ?_
  refine wpAny_forIn_list _ (fun rest r s' => r.1 = none ∧ s' = s ∧ ∀ y ∈ rest, ∃ k' c, y = Value.ref c ∧ IsP P w s.heap k' c) _ ?_ ?_ _ _ ⟨rfl, rfl, hy⟩
  · rintro v rst r s' ⟨hr, rfl, hall⟩
    obtain ⟨k', c, rfl, hc⟩ := hall v List.mem_cons_self
    have rest' : ∀ y ∈ rst, ∃ k' c, y = Value.ref c ∧ IsP P w s'.heap k' c := fun u hu' => hall u (List.mem_cons_of_mem _ hu')
    dsimp only
    by_cases hv : (x == c || (carriedByValue (.ref x) && carriedByValue (.ref c))) = true
    · exact wp_if_pos hv (wpAny_pure ⟨rfl, rfl, rest'⟩)
    · refine wp_if_neg hv ?_
      refine wpAny_bind (quiet hx ?_)
      simp only [Bool.not_true, Bool.false_eq_true, if_false]
      refine wpAny_bind (quiet hc ?_)
      simp only [Bool.not_true, Bool.false_eq_true, if_false]
      refine wpAny_bind (hx.ofA ?_)
      simp only [Bool.false_eq_true, if_false]
      refine wpAny_bind (hc.ofA ?_)
      simp only [Bool.false_eq_true, if_false]
      exact wpAny_pure ⟨rfl, rfl, rest'⟩
  · rintro ⟨r1, r2⟩ s' ⟨hr, rfl, _⟩
    simp only at hr
    subst hr
    exact wpAny_pure h
theorem SP.rest (R : SP P w s.heap a L es ep t) (hl : L.length ≤ 7) {x : Addr} {k : PKey} (hx : IsP P w s.heap k x) (hu : A.units + 2 < cLine) {i : Nat} {p : Addr × PKey} (hp : L[i]? = some p) (hpk : p.2 = k) {Q : SetFound → Shared → Prop} (h : Q (.there none) s) {f j : Nat} {nx : SetTable.Probe} {hh : Int} :
    wpAny (model P w) A (searchRest a (.ref x) hh true f es t j i nx) Q E s := by
  obtain ⟨o, ho, hex, hd⟩ := R.ob
  unfold searchRest
  rw [R.entry hp]
  dsimp only
  refine wpAny_bind (wpAny_holding ((R.tup p (List.mem_of_getElem? hp)).eqb hx hu hpk ?_))
  refine wpAny_bind (wpAny_setState_of ho hd (R.fits hl) ?_)
  dsimp only
  refine wp_if_pos (by simp) ?_
  exact wpAny_pure h
theorem SP.searchF (R : SP P w s.heap a L es ep t) (hl : L.length ≤ 7) {x : Addr} {k : PKey} (hx : IsP P w s.heap k x) {hh : Int} (ehh : phash k = hh) (hinj : ∀ q ∈ L, phash q.2 = hh → q.2 = k) (hu : A.units + 2 < cLine) {Q : SetFound → Shared → Prop}
    (hin : k ∈ L.map (·.2) → Q (.there none) s)
    (hout : ∀ K, k ∉ L.map (·.2) → way t.mask hh K ∉ t.place.toList → (∀ c, c < K → way t.mask hh c ∈ t.place.toList) → Q (.free (way t.mask hh K) false) s) (f : Nat) :
    wpAny (model P w) A (setSearchFrom a (.ref x) hh true (f + 1) none) Q E s := by
  obtain ⟨K, hKf, hK, hKb⟩ := R.tab.first (by rw [List.length_map, R.mask]; exact hl) hh
  obtain ⟨o, ho, hex, hd⟩ := R.ob
  rw [setSearchFrom_succ]
  refine wpAny_bind (wpAny_setState_of ho hd (R.fits hl) ?_)
  dsimp only
  refine wp_if_neg R.gw ?_
  try refine wpAny_bind (wpAny_pure ?_)
  have hashAt : ∀ (i : Nat) p, L[i]? = some p → (fun i => (es[i]?.map (·.1)).getD 0) i = phash p.2 := fun i p hp => by
    show (es[i]?.map (·.1)).getD 0 = _
    rw [R.entry hp, Option.map_some, Option.getD_some]
  have atI : ∀ (i j : Nat), t.place.toList[i]? = some j → ∃ p, L[i]? = some p ∧ p ∈ L := fun i j hi => by
    have hil : i < L.length := by
      have h1 : i < t.place.toList.length := (List.getElem?_eq_some_iff.mp hi).1
      have h2 := R.tab.sz
      rw [List.length_map] at h2
      rw [Array.length_toList] at h1
      omega
    exact ⟨L[i], List.getElem?_eq_getElem hil, List.getElem_mem hil⟩
  rcases go_spec t R.tab.ris R.tab.dm (fun i => (es[i]?.map (·.1)).getD 0) hh (10 * SetTable.turns t.mask) K (runAt t.mask (SetTable.bits hh % (t.mask + 1)) (SetTable.bits hh)) rfl hKf hKb hK with ⟨q, i, hq, hi, hh2, _, hpr⟩ | ⟨hno, hpr⟩
  · have hpr' : t.probe (fun i => (es[i]?.map (·.1)).getD 0) hh ((none : Option SetTable.Probe).getD (t.probeStart hh)) = some (.candidate (nth t.mask (runAt t.mask (SetTable.bits hh % (t.mask + 1)) (SetTable.bits hh)) q).j i (nth t.mask (runAt t.mask (SetTable.bits hh % (t.mask + 1)) (SetTable.bits hh)) (q + 1))) := hpr
    rw [hpr']
    dsimp only
    obtain ⟨p, hp, hmem⟩ := atI i _ hi
    have hpk : p.2 = k := hinj p hmem (by rw [← hashAt i p hp]; exact hh2)
    have hQ := hin (List.mem_map.mpr ⟨p, hmem, hpk⟩)
    by_cases hld : t.led = true
    · refine wp_if_neg (by simp [hld]) ?_
      try refine wpAny_bind (wpAny_pure ?_)
      exact R.rest hl hx hu hp hpk hQ
    · refine wp_if_pos (by simp [hld]) ?_
      refine wpAny_bind (R.seen hx (fun y hy => ?_) ?_)
      · obtain ⟨e, he, ee⟩ := List.mem_map.mp hy
        have he1 : e ∈ es ∧ e.1 = hh := by simpa using he
        have he2 : e ∈ es.toList := by simpa using he1.1
        rw [R.rows] at he2
        obtain ⟨p2, hp2, e2⟩ := List.mem_map.mp he2
        refine ⟨p2.2, p2.1, ?_, R.tup p2 hp2⟩
        rw [← ee, ← e2]
      · refine wp_if_neg (by decide) ?_
        try refine wpAny_bind (wpAny_pure ?_)
        exact R.rest hl hx hu hp hpk hQ
  · have hpr' : t.probe (fun i => (es[i]?.map (·.1)).getD 0) hh ((none : Option SetTable.Probe).getD (t.probeStart hh)) = some (.empty (way t.mask hh K) none) := hpr
    rw [hpr']
    dsimp only
    refine wpAny_pure (hout K (fun hm => ?_) hK hKb)
    obtain ⟨p0, h0, hk0⟩ := List.mem_map.mp hm
    obtain ⟨i0, hi0, e0⟩ := List.getElem_of_mem h0
    have h00 : L[i0]? = some p0 := by rw [List.getElem?_eq_getElem hi0, e0]
    have hi : (L.map fun p => phash p.2)[i0]? = some hh := by rw [List.getElem?_map, h00, ← ehh, ← hk0, Option.map_some]
    have hil : i0 < t.place.toList.length := by
      have h2 := R.tab.sz
      rw [List.length_map] at h2
      rw [Array.length_toList]
      omega
    have hj := List.getElem?_eq_getElem hil
    obtain ⟨c', a2, a3⟩ := R.tab.before hK hi hj
    exact hno c' i0 a2 (by rw [hj]; exact congrArg some a3.symm) ((hashAt i0 p0 h00).trans ((congrArg phash hk0).trans ehh))
theorem SP.search (R : SP P w s.heap a L es ep t) (hl : L.length ≤ 7) {x : Addr} {k : PKey} (hx : IsP P w s.heap k x) {hh : Int} (ehh : phash k = hh) (hinj : ∀ q ∈ L, phash q.2 = hh → q.2 = k) (hu : A.units + 2 < cLine) {Q : SetFound → Shared → Prop}
    (hin : k ∈ L.map (·.2) → Q (.there none) s)
    (hout : ∀ K, k ∉ L.map (·.2) → way t.mask hh K ∉ t.place.toList → (∀ c, c < K → way t.mask hh c ∈ t.place.toList) → Q (.free (way t.mask hh K) false) s) :
    wpAny (model P w) A (setSearch a (.ref x) hh true) Q E s := by
  have key := R.searchF (E := E) hl hx ehh hinj hu hin hout
  unfold setSearch
  generalize hn : (100000 : Nat) = n
  obtain ⟨m, rfl⟩ : ∃ m, n = m + 1 := ⟨n - 1, by omega⟩
  exact key m
theorem SP.add (R : SP P w s.heap a L es ep t) (hl : L.length ≤ 3) {x : Addr} {k : PKey} (hx : IsP P w s.heap k x) (hinj : ∀ q ∈ L, phash q.2 = phash k → q.2 = k) (hu : A.units + 2 < cLine) {Q : Bool → Shared → Prop}
    (hQ : ∀ b h' L' es' ep' t', Heap.SameBut a s.heap h' → SP P w h' a L' es' ep' t' → (k ∈ L.map (·.2) → L' = L) → (k ∉ L.map (·.2) → L'.Perm ((x, k) :: L)) → Q b { s with heap := h' }) :
    wpAny (model P w) A (setAddHashed a (.ref x) (phash k)) Q E s := by
  obtain ⟨o, ho, hex, hd⟩ := R.ob
  have hsl := R.size
  have hfit := R.fits (Nat.le_trans hl (by decide))
  unfold setAddHashed
  refine wpAny_holding ?_
  rw [show (100000 : Nat) = 99999 + 1 from rfl, setAddHashedIn_succ]
  refine wpAny_bind (wpAny_setState_of ho hd hfit ?_)
  dsimp only
  refine wp_if_neg (by simp [byScan, Value.scannable]) ?_
  try refine wpAny_bind (wpAny_pure ?_)
  refine wpAny_bind (R.search (Nat.le_trans hl (by decide)) hx rfl hinj hu (fun hm => ?_) fun K hm hK hb => ?_)
  · exact wpAny_pure (hQ false s.heap L es ep t (Heap.SameBut.refl a s.heap) R (fun _ => rfl) fun z => absurd hm z)
  · dsimp only
    refine wpAny_bind (wpAny_setState_of ho hd hfit ?_)
    dsimp only
    obtain ⟨q1, q2, q3, q4, q5, q6, q7, q8, q9⟩ := R.tab.put hK hb
    rw [R.plain] at q6
    replace q4 := q4.trans R.mask
    generalize hpt : t.put (way t.mask (phash k) K) = pt at q1 q3 q4 q5 q6 q7 q8 q9 ⊢
    obtain ⟨t1, p⟩ := pt
    dsimp only at q1 q3 q4 q5 q6 q7 q8 q9 ⊢
    subst q1
    first
      | (refine wpAny_bind ?_; refine wp_if_pos q6 ?_; refine hx.hashBy ?_)
      | refine wp_if_pos q6 (wpAny_bind (hx.hashBy ?_))
    simp only [if_true]
    have hin : (SetTable.insertAt es (SetTable.below t.place (way t.mask (phash k) K)) (phash k, Value.ref x)).toList = rowsP (L.take (SetTable.below t.place (way t.mask (phash k) K)) ++ (x, k) :: L.drop (SetTable.below t.place (way t.mask (phash k) K))) := by
      rw [SetTable.toList_insertAt, R.rows]
      unfold rowsP
      rw [List.map_append, List.map_cons, List.map_take, List.map_drop]
    generalize SetTable.below t.place (way t.mask (phash k) K) = p at q2 q3 hin ⊢
    have pm := put_perm L p (x, k)
    have hlen : (L.take p ++ (x, k) :: L.drop p).length = L.length + 1 := pm.length_eq
    have hhs : (L.take p ++ (x, k) :: L.drop p).map (fun p => phash p.2) = (L.map fun p => phash p.2).take p ++ phash k :: (L.map fun p => phash p.2).drop p := by
      rw [List.map_append, List.map_cons, List.map_take, List.map_drop]
    rw [← hhs] at q3
    have nd1 : ((L.take p ++ (x, k) :: L.drop p).map (·.2)).Nodup := by
      refine (pm.map (·.2)).nodup_iff.mpr ?_
      rw [List.map_cons]
      exact List.nodup_cons.mpr ⟨hm, R.nd⟩
    have hes : (SetTable.insertAt es p (phash k, Value.ref x)).size = L.length + 1 := by
      have h := congrArg List.length hin
      unfold rowsP at h
      rw [Array.length_toList, List.length_map, hlen] at h
      exact h
    generalize SetTable.insertAt es p (phash k, Value.ref x) = es1 at hin hes ⊢
    generalize L.take p ++ (x, k) :: L.drop p = L1 at pm hlen q3 nd1 hin
    refine wpAny_bind (wpAny_storeSet_of ho hd ?_ (by rw [hes, sizeLine_eq]; omega))
    have sb : Heap.SameBut a s.heap (s.heap.update a (Obj.putSet es1 t1)) := Heap.SameBut.update ..
    have ho1 := store_at (es' := es1) (t' := t1) ho hd
    generalize s.heap.update a (Obj.putSet es1 t1) = h1 at sb ho1 ⊢
    have tup1 : ∀ p ∈ L1, IsP P w h1 p.2 p.1 := fun p hp => by
      rcases List.mem_cons.mp (pm.mem_iff.mp hp) with e | hp
      · rw [e]; exact hx.same ho hd sb
      · exact (R.tup p hp).same ho hd sb
    have hf : ¬ t1.tooFull = true := by
      unfold SetTable.tooFull
      rw [decide_eq_true_eq, q9, List.length_map, q4]
      omega
    first
      | refine wp_if_neg (by simp [hf]) ?_
      | (refine wpAny_bind ?_; refine wp_if_neg (by simp [hf]) ?_; refine wpAny_pure ?_)
    exact wpAny_pure (hQ true h1 L1 es1 (ep + 1) t1 sb ⟨⟨_, ho1, ⟨hex.1, hex.2.1, hex.2.2⟩, rfl⟩, hin, q3, nd1, tup1, q6, by rw [q5]; exact R.led, q4⟩ (fun z => absurd z hm) fun _ => pm)
end
end GY
namespace GY
open PySem PySem.Spec PyProof.Rows L2

/-! ## set(xs) and sorted(set(xs)), xs a short list of (int, tuple of ints) -/
structure GotP (ks : List (Addr × PKey)) (i : Nat) (L : List (Addr × PKey)) : Prop where
  sub : ∀ p ∈ L, p ∈ ks.take i
  all : ∀ p ∈ ks.take i, p.2 ∈ L.map (·.2)
  len : L.length ≤ i
theorem GotP.zero (ks : List (Addr × PKey)) : GotP ks 0 [] := ⟨fun p h => (by cases h), fun p h => (by simp at h), Nat.le_refl _⟩
theorem GotP.same {ks L : List (Addr × PKey)} {i : Nat} {x : Addr × PKey} (g : GotP ks i L) (h : ks[i]? = some x) (hm : x.2 ∈ L.map (·.2)) : GotP ks (i + 1) L := by
  refine ⟨fun p hp => ?_, fun p hp => ?_, Nat.le_succ_of_le g.len⟩
  · rw [take_next h]
    exact List.mem_append_left _ (g.sub p hp)
  · rw [take_next h] at hp
    rcases List.mem_append.mp hp with z | z
    · exact g.all p z
    · rw [List.mem_singleton.mp z]; exact hm
theorem GotP.more {ks L L' : List (Addr × PKey)} {i : Nat} {x : Addr × PKey} (g : GotP ks i L) (h : ks[i]? = some x) (pm : L'.Perm (x :: L)) : GotP ks (i + 1) L' := by
  refine ⟨fun p hp => ?_, fun p hp => ?_, ?_⟩
  · rw [take_next h]
    rcases List.mem_cons.mp (pm.mem_iff.mp hp) with e | z
    · rw [e]; exact List.mem_append_right _ (List.mem_singleton.mpr rfl)
    · exact List.mem_append_left _ (g.sub p z)
  · rw [(pm.map (·.2)).mem_iff, List.map_cons]
    rw [take_next h] at hp
    rcases List.mem_append.mp hp with z | z
    · exact List.mem_cons_of_mem _ (g.all p z)
    · rw [List.mem_singleton.mp z]; exact List.mem_cons_self
  · rw [pm.length_eq, List.length_cons]
    exact Nat.succ_le_succ g.len
section
variable {P : Program} {w : World} {A : Around} {E : Value → Shared → Prop} {s : Shared}
abbrev freshO (w : World) : Obj := { cls := .type "set", dict := none, data := .set #[] 0 (.fresh 0 0 (!w.params.followText "set-order")) }
theorem SP.fresh {h : Heap} {a : Addr} (ho : h.get? a = some (freshO w)) : SP P w h a [] #[] 0 (.fresh 0 0 (!w.params.followText "set-order")) where
  ob := ⟨_, ho, ⟨rfl, rfl, rfl⟩, rfl⟩
  rows := rfl
  tab := (setTR_fresh (P := P) ho).tab
  nd := List.nodup_nil
  tup := fun p hp => (by cases hp)
  plain := rfl
  led := (setTR_fresh (P := P) ho).led
  mask := rfl
theorem set_update_P {I : Addr} {fp wr : List Addr} {G : Array GenState → Array GenState → Prop} {n : Nat} {Pv : Nat → Value → Prop} {St : Nat → Shared → Prop} {R : Result → Shared → Prop}
    (W : WalksS P w A.in1 I fp wr G n Pv St) (S : Addr) (hSf : S ∉ fp) (ks : List (Addr × PKey)) (hn : n = ks.length) (hfew : ks.length ≤ 4) (hval : ∀ i v, Pv i v → ∃ p, ks[i]? = some p ∧ v = .ref p.1)
    (hinj : ∀ p ∈ ks, ∀ q ∈ ks, phash p.2 = phash q.2 → p.2 = q.2)
    (h0 : Heap) (hk : ∀ p ∈ ks, IsP P w h0 p.2 p.1) (hS0 : h0.get? S = none) (hw0 : ∀ b ∈ wr, h0.get? b = none) (hu : A.in1.units + 2 < cLine) :
    ∀ (k i : Nat) (s : Shared), n - i = k → i ≤ n → St i s → (∀ b o, h0.get? b = some o → s.heap.get? b = some o) → (∃ L es ep t, SP P w s.heap S L es ep t ∧ GotP ks i L) →
      (∀ s' L es ep t, Moved (S :: wr) G s s' → SP P w s'.heap S L es ep t → GotP ks n L → (∀ b o, h0.get? b = some o → s'.heap.get? b = some o) → R (.ok (.ret .none)) s') →
      codeAny (model P w) A (.builtin "set.update.loop" ⟨[.ref S, .ref I], []⟩) R s := by
  have hSw : S ∉ wr := fun h => hSf (W.sub _ h)
  have hsub : ∀ b ∈ wr, b ∈ S :: wr := fun b hb => List.mem_cons_of_mem _ hb
  have mv : ∀ {s s' : Shared} {L es ep t}, Moved wr G s s' → SP P w s.heap S L es ep t → (∀ p ∈ L, p ∈ ks) → (∀ b o, h0.get? b = some o → s.heap.get? b = some o) → (∀ b o, h0.get? b = some o → s'.heap.get? b = some o) ∧ SP P w s'.heap S L es ep t := fun {s s' L es ep t} hm R sub hkp => by
    have kp : ∀ b o, h0.get? b = some o → s'.heap.get? b = some o := fun b o e => hm.heap b o (fun hb => by rw [hw0 b hb] at e; cases e) (hkp b o e)
    obtain ⟨o, ho, r⟩ := R.ob
    exact ⟨kp, ⟨o, hm.heap S o hSw ho, r⟩, R.rows, R.tab, R.nd, fun p hp => (hk p (sub p hp)).keep kp, R.plain, R.led, R.mask⟩
  intro k
  induction k with
  | zero =>
    intro i s hk' hi hst hkp ⟨L, es, ep, t, hS, g⟩ hR
    obtain rfl : i = n := by omega
    refine codeAny_builtin F.entry_set_update_loop ?_
    rw [Around.under_plainId F.plain_set_update_loop _]
    show wpAny _ A.in1 (pyNext (.ref I) >>= _) _ _ s
    refine wpAny_bind (W.done s _ _ hst fun s' hm => ?_)
    show wpAny _ A.in1 (ret Value.none) _ _ s'
    obtain ⟨kp, hS'⟩ := mv hm hS (fun p hp => List.mem_of_mem_take (g.sub p hp)) hkp
    exact wpAny_pure (hR s' L es ep t (hm.mono hsub) hS' g kp)
  | succ k ih =>
    intro i s hk' hi hst hkp ⟨L, es, ep, t, hS, g⟩ hR
    have hlt : i < n := by omega
    refine codeAny_builtin F.entry_set_update_loop ?_
    rw [Around.under_plainId F.plain_set_update_loop _]
    show wpAny _ A.in1 (pyNext (.ref I) >>= _) _ _ s
    refine wpAny_bind (W.item i s _ _ hlt hst fun v s' hP hst' hm => ?_)
    obtain ⟨p, hp, rfl⟩ := hval i v hP
    have hpm := List.mem_of_getElem? hp
    have sub : ∀ p ∈ L, p ∈ ks := fun p hp => List.mem_of_mem_take (g.sub p hp)
    obtain ⟨kp, hS'⟩ := mv hm hS sub hkp
    have hx : IsP P w s'.heap p.2 p.1 := (hk p hpm).keep kp
    show wpAny _ A.in1 (holding [Value.ref p.1] (setAdd S (.ref p.1)) >>= _) _ _ s'
    refine wpAny_bind (wpAny_holding ?_)
    unfold setAdd
    refine wpAny_holding ?_
    refine wpAny_bind (hx.hash hu ?_)
    refine SP.add (s := { s' with toks := s'.toks + (nkP p.2).draws }) hS' (by have := g.len; omega) hx (fun q hq => hinj q (sub q hq) p hpm) hu fun b h' L' es' ep' t' hsb hS2 c1 c2 => ?_
    have g' : GotP ks (i + 1) L' := by
      rcases Classical.em (p.2 ∈ L.map (·.2)) with c | c
      · rw [c1 c]; exact g.same hp c
      · exact g.more hp (c2 c)
    have kp2 : ∀ b o, h0.get? b = some o → h'.get? b = some o := fun b o e => (hsb.2 b (fun z => by rw [z, hS0] at e; cases e)).trans (kp b o e)
    refine wpAny_pure ⟨plainId_quiet F.plain_set_update_loop _, ih (i + 1) _ (by omega) hlt (W.frame _ s' _ _ hst' (Nat.le_add_right _ _) fun b hb o e => ?_) kp2 ⟨L', es', ep', t', hS2, g'⟩ fun s'' L2 es2 ep2 t2 hm'' hS'' g'' kp'' => ?_⟩
    · rw [hsb.2 b (fun h : b = S => hSf (by rw [← h]; exact hb))]; exact e
    · refine hR s'' L2 es2 ep2 t2 (Moved.trans W.gtrans ((hm.mono hsub).then_heap (Nat.le_add_right _ _) fun b o hb e => ?_) hm'') hS'' g'' kp''
      rw [hsb.2 b (fun h : b = S => hb (by rw [h]; exact List.mem_cons_self))]; exact e
theorem call_setP {l : Addr} {items : Array Value} (ks : List (Addr × PKey)) {Q : Value → Shared → Prop} (hh : A.handled = none) (hl : s.heap.IsList l items) (hit : items.toList = ks.map fun p => Value.ref p.1)
    (hk : ∀ p ∈ ks, IsP P w s.heap p.2 p.1) (hfew : ks.length ≤ 4) (hinj : ∀ p ∈ ks, ∀ q ∈ ks, phash p.2 = phash q.2 → p.2 = q.2) (hu : A.units + 8 < cLine)
    (h : ∀ (h' : Heap) (tk : Nat) L es ep t, SP P w h' s.heap.objs.size L es ep t → GotP ks ks.length L → (∀ b o, s.heap.get? b = some o → h'.get? b = some o) → Q (.ref s.heap.objs.size) { s with heap := h', toks := tk }) :
    wpAny (model P w) A (call (.type "set") [.ref l]) Q E s := by
  have hisz : items.size = ks.length := by
    have q := congrArg List.length hit
    rw [Array.length_toList, List.length_map] at q
    exact q
  obtain ⟨c, tl, hmro⟩ := F.called_set.mro
  have hmade := F.called_set.made
  have hsub := F.called_set.sub
  refine wpAny_call (codeAny_of_tree ?_)
  show wpAny _ _ (callAny (.type "set") _) _ _ _
  refine wpAny_pure ⟨Code.quiet_builtin _ (by decide +kernel), codeAny_builtin F.entry_type_call ?_⟩
  rw [Around.under_plain (weight_type_call_type "set" [.ref l] []) rfl]
  have h1 := F.called_set.notType
  have h2 := F.called_set.canCreate
  have hct := F.typeCall_set_1 (.ref l)
  repeat (any_goals (first | assumption | wp_step))
  refine codeAny_mono (code_set_led1 (.ref l) (E := E) (Q₁ := fun obj s₁ => obj = .ref s.heap.objs.size ∧ s₁ = { s with heap := s.heap.push (freshO w) }) ⟨rfl, rfl⟩) fun r s₁ hr => ?_
  cases r with
  | error e => exact hr
  | ok fl =>
    cases fl with
    | ret obj =>
      obtain ⟨rfl, rfl⟩ := hr
      have hS : (s.heap.push (freshO w)).get? s.heap.objs.size = some (freshO w) := Heap.get?_push_size _ rfl
      have hT : Shared.TypeIs { s with heap := s.heap.push (freshO w) } (.ref s.heap.objs.size) "set" := ⟨_, hS, rfl⟩
      have hli := F.called_set.init.lookup
      have hbi := F.called_set.init.bind (.ref s.heap.objs.size)
      repeat (any_goals (first | assumption | wp_step))
      refine codeAny_mono (codeAny_call_builtin (R := wants (fun r s₂ => r = .none ∧ ∃ h' tk L es ep t, s₂ = { s with heap := h', toks := tk } ∧ SP P w h' s.heap.objs.size L es ep t ∧ GotP ks ks.length L ∧
          (∀ b o, s.heap.get? b = some o → h'.get? b = some o)) E) F.called_set.init.plain F.entry_set_init (check_set_init_1 hT ?_)) fun r₂ s₂ hr₂ => ?_
      · obtain ⟨ol, hol, hcl, nl, hdl⟩ := hl
        obtain ⟨ocls, odict, odata, oslots⟩ := ol
        simp only at hcl hdl
        subst hcl; subst hdl
        have hol' : (s.heap.push (freshO w)).get? l = some { cls := .type "list", dict := odict, data := .seq items nl, slots := oslots } := Heap.get?_push_of_some _ hol
        have hsls := F.sub_list_set
        have hslf := F.sub_list_frozenset
        have hne : (Value.type "list" == Value.type "dict") = false := by decide
        have hl1 : (s.heap.push (freshO w)).IsList l items := ⟨_, hol', rfl, nl, rfl⟩
        unfold Builtin.«set.__init__» noKeywords Builtin.Frozenset.updateFrom
        generalize hPI : pyIter = PI
        wp_walk
        subst hPI
        refine wpAny_pyIter_list hl1 ?_
        refine wpAny_bind (wpAny_runValue ?_)
        have hlS : l < s.heap.objs.size := Heap.lt_size hol
        have hh3 : A.in1.in1.in1.handled = none := by simp [hh]
        have hz1 : (s.heap.push (freshO w)).objs.size = s.heap.objs.size + 1 := Heap.size_push ..
        have hneI : l ≠ (s.heap.push (freshO w)).objs.size := by
          rw [hz1]; exact Nat.ne_of_lt (Nat.lt_succ_of_lt hlS)
        have hSf : s.heap.objs.size ∉ [(s.heap.push (freshO w)).objs.size, l] := by
          rw [hz1]; simp only [List.mem_cons, List.mem_singleton, List.not_mem_nil, or_false, not_or]
          exact ⟨Nat.ne_of_lt (Nat.lt_succ_self _), Nat.ne_of_gt hlS⟩
        have hval : ∀ (i : Nat) (v : Value), items[i]? = some v → ∃ p, ks[i]? = some p ∧ v = .ref p.1 := fun i v hv => by
          have q : items.toList[i]? = some v := by rw [Array.getElem?_toList]; exact hv
          rw [hit, List.getElem?_map] at q
          obtain ⟨p, hp, e⟩ := Option.map_eq_some_iff.mp q
          exact ⟨p, hp, e.symm⟩
        have none_of : ∀ b, s.heap.objs.size ≤ b → s.heap.get? b = none := fun b hb => by
          cases q : s.heap.get? b with
          | none => rfl
          | some o => exact absurd (Nat.lt_of_lt_of_le (Heap.lt_size q) hb) (Nat.lt_irrefl _)
        refine set_update_P ((Walks.list hh3 _ l hneI items).toS) s.heap.objs.size
          hSf ks hisz hfew hval hinj s.heap hk (none_of _ (Nat.le_refl _)) (fun b hb => none_of b (by
            rw [List.mem_singleton.mp hb, hz1]
            exact Nat.le_succ _)) (by simp only [Around.in1_units] at hu ⊢; omega) (items.size - 0) 0 _ (by omega) (Nat.zero_le _)
          ⟨⟨_, Heap.get?_push_size _ rfl, rfl, rfl⟩, (hl1.push _)⟩ (fun b o e => Heap.get?_push_of_some _ (Heap.get?_push_of_some _ e)) ?hS0 ?hR
        case hS0 => exact ⟨[], #[], 0, _, SP.fresh (Heap.get?_push_of_some _ hS), GotP.zero ks⟩
        case hR =>
          intro s' L es ep t hm hS' g' hkp
          obtain ⟨h', g2, d', tk', os'⟩ := s'
          have eg : g2 = s.gens := hm.gens
          have ed : d' = s.drawn := hm.drawn
          have eo : os' = s.os := hm.os
          subst eg; subst ed; subst eo
          show wpAny _ _ _ _ _ _
          refine wpAny_pure ?_
          show wpAny _ _ (ret Value.none) _ _ _
          rw [hisz] at g'
          exact wpAny_pure ⟨rfl, h', tk', L, es, ep, t, rfl, hS', g', hkp⟩
      · cases r₂ with
        | error e => exact hr₂
        | ok fl₂ =>
          cases fl₂ with
          | ret r =>
            obtain ⟨rfl, h', tk, L, es, ep, t, rfl, hS', g', hk'⟩ := hr₂
            repeat (any_goals (first | assumption | wp_step))
            exact h _ _ _ _ _ _ hS' g' hk'
          | _ => exact hr₂.elim
    | _ => exact hr.elim
end
end GY
namespace GY
open PySem PySem.Spec PyProof.Rows L2 PySem.W

/-- the set at a, without the tuples themselves -/
def SP0 (P : Program) (w : World) (h : Heap) (a : Addr) (L : List (Addr × PKey)) : Prop :=
  ∃ (es : Array (Int × Value)) (ep : Nat) (t : SetTable), (∃ o, h.get? a = some o ∧ o.ExactSet ∧ o.data = .set es ep t) ∧ es.toList = rowsP L ∧ TabOk t (L.map fun p => phash p.2) ∧ (L.map (·.2)).Nodup ∧ t.plain = true ∧
    (w.params.followText "set-order" = true ∨ t.led = true) ∧ t.mask = 7
def SPO (P : Program) (w : World) (a : Addr) (L : List (Addr × PKey)) : HO := .ext fun h => SP0 P w h a L
theorem SP.t0 {P : Program} {w : World} {h : Heap} {a : Addr} {L : List (Addr × PKey)} {es : Array (Int × Value)} {ep : Nat} {t : SetTable} (R : SP P w h a L es ep t) : SP0 P w h a L :=
  ⟨es, ep, t, R.ob, R.rows, R.tab, R.nd, R.plain, R.led, R.mask⟩
theorem spo_new {P : Program} {w : World} {H : Hp} {h : Heap} {a : Addr} {L : List (Addr × PKey)} (R : SP0 P w h a L) : ObjOk P w H h a (SPO P w a L) := by
  obtain ⟨es, ep, t, ⟨o, ho, r⟩, q⟩ := id R
  refine ⟨R, ⟨o, ho⟩, fun h1 h2 p k => ?_⟩
  obtain ⟨es', ep', t', ⟨o', ho', r'⟩, q'⟩ := (show SP0 P w h1 a L from p)
  exact ⟨es', ep', t', ⟨o', k o' ho', r'⟩, q'⟩
section
variable {X : Cx} {pins : List (Addr × Obj)} {σ : L2.St} {H F : Hp} {s : Shared}
theorem rp_isP (I : Inv X pins σ H s) (f : Same F H) {a : Addr} {k : PKey} (r : Rp F (.ref a) (eN k)) : IsP X.prog X.w s.heap k a := by
  obtain ⟨b, ys, eb, hb, ry⟩ := Rp.tuple_inv r
  cases eb
  cases ry with
  | cons r1 ry =>
    cases ry with
    | cons r2 ry =>
      cases ry
      cases Rp.int_inv r1
      obtain ⟨c, zs, ec, hc, rz⟩ := Rp.tuple_inv r2
      subst ec
      obtain ⟨its, rv, ⟨o, ho, hcl, n, hd⟩, _⟩ := I.tuple (sqt_rd (K := X.K) (rdm f hb))
      cases rv with
      | cons e1 rv =>
        cases rv with
        | cons e2 rv =>
          cases rv
          obtain ⟨t, rfl⟩ := e1
          obtain rfl := e2
          exact ⟨o, t, c, n, ho, hcl, hd, I.isT (rp_sqt f r2)⟩
theorem addrsP {F : Hp} : ∀ {xs : List V} {ks : List PKey}, RpAll F xs (ks.map eN) → ∃ ps : List (Addr × PKey), xs = ps.map (fun p => V.ref p.1) ∧ ps.map (·.2) = ks ∧ ∀ p ∈ ps, Rp F (.ref p.1) (eN p.2)
  | _, [], .nil => ⟨[], rfl, rfl, fun _ h => nomatch h⟩
  | _, k :: ks, .cons r t => by
    obtain ⟨ps, h1, h2, h3⟩ := addrsP t
    obtain ⟨a, ys, ea, _, _⟩ := Rp.tuple_inv r
    subst ea
    refine ⟨(a, k) :: ps, by rw [h1]; rfl, by rw [List.map_cons, h2], fun p hp => ?_⟩
    rcases List.mem_cons.mp hp with z | z
    · rw [z]; exact r
    · exact h3 p z
theorem refs_valsP : ∀ {ks : List (Addr × PKey)} {us : List Value}, Vals (ks.map fun p => V.ref p.1) us → us = ks.map fun p => Value.ref p.1
  | [], _, .nil => rfl
  | p :: ks, _, .cons r t => by
    cases r
    rw [refs_valsP t]
    rfl
theorem vals_refsP : ∀ (ks : List (Addr × PKey)), Vals (ks.map fun p => V.ref p.1) (ks.map fun p => Value.ref p.1)
  | [] => .nil
  | p :: ks => .cons rfl (vals_refsP ks)
def rSetP (X : Cx) : List V → Hp → VK → Prop := fun xs H Q => ∃ (l : Addr) (F : Hp) (ks : List (Addr × PKey)), xs = [V.ref l] ∧ Same F H ∧ SqL X.K H l (ks.map fun p => V.ref p.1) ∧ (∀ p ∈ ks, Rp F (.ref p.1) (eN p.2)) ∧ ks.length ≤ 4 ∧
  (∀ p ∈ ks, ∀ q ∈ ks, phash p.2 = phash q.2 → p.2 = q.2) ∧
  ∀ a L, H a = none → (∀ p ∈ L, p ∈ ks) → (∀ p ∈ ks, p.2 ∈ L.map (·.2)) → (L.map (·.2)).Nodup → Q (.ref a) (upd H a (SPO X.prog X.w a L))
theorem cr_setP (hc : X.calm = true) (hu : X.A.units + 64 < cLine) : CallR X (.type "set") (rSetP X) := by
  intro pins s σ H xs us Q I r h
  obtain ⟨l, F, ks, rfl, f, hl, hk, hf, hinj, q⟩ := h
  rw [Vals.ref1 r]
  obtain ⟨its, rv, pl, hz⟩ := I.list hl
  have hn : H s.heap.objs.size = none := I.hok.fresh (Nat.le_refl _)
  refine call_setP (P := X.prog) (w := X.w) ks (I.ok.hd hc) pl.isList (by simpa using refs_valsP rv) (fun p hp => rp_isP I f (hk p hp)) hf hinj (by omega) fun h' tk L es ep t R g k => ?_
  refine ⟨.ref s.heap.objs.size, upd H s.heap.objs.size (SPO X.prog X.w s.heap.objs.size L), I.laid (t' := tk) k (Nat.le_refl _) (spo_new R.t0), rfl, q _ L hn (fun p hp => ?_) (fun p hp => ?_) R.nd⟩
  · exact List.mem_of_mem_take (g.sub p hp)
  · exact g.all p (by rw [List.take_length]; exact hp)
theorem coll_setP (hcm : X.calm = true) {a : Addr} {L : List (Addr × PKey)} (f : Same F H) (ha : H a = some (SPO X.prog X.w a L)) (hL : L.length ≤ 7) (hr : ∀ p ∈ L, Rp F (.ref p.1) (eN p.2)) : ∀ (pins : List (Addr × Obj)) (s : Shared) (σ : L2.St) (u : Value) (Q : List Value → Shared → Prop) (E : Value → Shared → Prop), Inv X pins σ H s → RelV (.ref a) u →
    (∀ us s' (L' : List (Addr × PKey)), Inv X pins σ H s' → L'.Perm L → Vals (L'.map fun p => V.ref p.1) us → Q us s') → wpAny (model X.prog X.w) X.A.in1 (collect u) Q E s := by
  intro pins s σ u Q E I ru q
  obtain rfl : u = Value.ref a := ru
  obtain ⟨es, ep, t, ⟨o, ho, hex, hd⟩, h2, h3, h4, h5, h6, h7⟩ := (show SP0 X.prog X.w s.heap a L from (I.hok a _ ha).1)
  have R : SP X.prog X.w s.heap a L es ep t := ⟨⟨o, ho, hex, hd⟩, h2, h3, h4, fun p hp => rp_isP I f (hr p hp), h5, h6, h7⟩
  refine collect_set (A := X.A.in1) (I.ok.hd hcm) ⟨o, ho, hex.1, hd⟩ (R.fits hL) (by rw [R.size]; unfold scanBound; omega) R.tab.ris R.led fun s1 out k1 hz g1 o1 pm => ?_
  have I1 : Inv X pins σ H s1 := I.call' (ch := []) o1 (Un.kept k1) (I.hok.kept k1) (by rw [g1]; exact I.bare) (fun _ z => nomatch z)
  have hes : es.toList.map (·.2) = L.map fun q => Value.ref q.1 := by
    rw [R.rows]
    unfold rowsP
    rw [List.map_map]
    rfl
  rw [hes] at pm
  have ord : ∀ (vs : List Value) (M : List (Addr × PKey)), vs.Perm (M.map fun q => Value.ref q.1) → ∃ L1 : List (Addr × PKey), vs = L1.map (fun q => Value.ref q.1) ∧ L1.Perm M := by
    intro vs
    induction vs with
    | nil => intro M h; exact ⟨[], rfl, by have := h.length_eq; rw [List.length_map] at this; rw [List.length_eq_zero_iff.mp this.symm]⟩
    | cons v vs ih =>
      intro M h
      obtain ⟨m, hm, e⟩ := List.mem_map.mp (h.mem_iff.mp List.mem_cons_self)
      obtain ⟨M1, M2, rfl⟩ := List.append_of_mem hm
      have h2 : (v :: vs).Perm (v :: ((M1 ++ M2).map fun q => Value.ref q.1)) := by
        refine h.trans ?_
        rw [← e, List.map_append, List.map_cons, List.map_append]
        exact List.perm_middle
      obtain ⟨L1, e1, p1⟩ := ih (M1 ++ M2) h2.cons_inv
      exact ⟨m :: L1, by rw [List.map_cons, e, e1], (p1.cons m).trans List.perm_middle.symm⟩
  obtain ⟨L1, e1, p1⟩ := ord out L pm
  rw [e1]
  exact q _ s1 L1 I1 p1 (vals_refsP L1)
end
/-- what a value is collected to: items that stand for some ds that sort to es -/
def CollP (X : Cx) (F H : Hp) (x : V) (es : List PyData) : Prop :=
  ∀ (pins : List (Addr × Obj)) (s : Shared) (σ : L2.St) (u : Value) (Q : List Value → Shared → Prop) (E : Value → Shared → Prop), Inv X pins σ H s → RelV x u →
    (∀ us s' F' H' vs ds, Inv X pins σ H' s' → Gr F H F' H' → Vals vs us → RpAll F' vs ds → SortOk ds es → Q us s') → wpAny (model X.prog X.w) X.A.in1 (collect u) Q E s
/-- sorted(x), x collected to data in an order not known -/
def rSortP (X : Cx) : List V → Hp → VK → Prop := fun xs H Q => ∃ (x : V) (F : Hp) (es : List PyData), xs = [x] ∧ CollP X F H x es ∧
  ∀ v F' H', Gr F H F' H' → VOk X.w F' H' v (.ol es) → (∀ a, (Sl.ol es).own = true → v = .ref a → H a = none) → Q v H'
theorem cr_sortP {X : Cx} {k : Nat} (hr : Room k X.A) : CallR X (.builtin "sorted") (rSortP X) := by
  intro pins s σ H xs us Q I r h
  obtain ⟨x, F, es, rfl, hc, q⟩ := h
  obtain ⟨u, rfl, rx⟩ := vals1 r
  refine call_function_entry_kw kind_sorted plain_sorted entry_sorted (args_sorted1 _) ?_
  unfold Builtin.«sorted»
  refine wpAny_bind (m := checkCount "sorted" 1 1 _) (wpAny_pure ?_)
  refine wpAny_bind (hc pins s σ u _ _ I rx fun us' s1 F1 H1 vs ds I1 g1 rv r1 G => ?_)
  have hd : DpAll X.K H1 vs ds := RpAll.dp X.K _ _ (nXs_noList _ G.nl) (RpAll.mono g1.fh _ _ r1)
  have len1 : vs.length = us'.length := rv.length
  have len2 : vs.length = ds.length := r1.length
  have hL := G.len
  have hL' : us'.length ≤ sizeLine := Nat.le_of_lt (small1000 (by omega))
  refine wpAny_bind (wpAny_newList ?_ hL')
  obtain ⟨e1, e2, e3⟩ := each_zip I1 hd rv
  have ez : (vs.zip ds).length = ds.length := by rw [List.length_zip]; omega
  have k2 : ∀ b o, s1.heap.get? b = some o → (s1.heap.push { cls := .type "list", data := .seq us'.toArray }).get? b = some o := fun b o e => Heap.get?_push_of_some _ e
  have ho : (s1.heap.push { cls := .type "list", data := .seq us'.toArray }).get? s1.heap.objs.size = some (seqObj "list" us'.toArray 0) := Heap.get?_push_size _ rfl
  refine wpAny_bind (wpAny_holding (list_sort_data (A := X.A.in1) (s := { s1 with heap := s1.heap.push { cls := .type "list", data := .seq us'.toArray } }) (enc := Prod.snd) (bs := vs.zip ds) (R := fun (u : Value) (b : V × PyData) => RelV b.1 u) ho e1 ?_ (by rw [e3]; exact G.al) (by rw [e3]; exact G.so) (by rw [ez]; exact Nat.le_of_lt (small1000 hL)) (fun b hb => ?_) fun out hout eo => ?_))
  · refine (each_mem e2).mono fun v b ⟨⟨as, r⟩, hb⟩ => ?_
    have hmem : b.2 ∈ ds := by rw [← e3]; exact List.mem_map_of_mem hb
    have ha := reads_none _ _ _ (noLists_mem G.nl _ hmem) r
    subst ha
    exact ⟨[], Reads.keeps k2 r, by simp⟩
  · have hmem : b.2 ∈ ds := by rw [← e3]; exact List.mem_map_of_mem hb
    have h1 := G.dep _ hmem
    have h2 := hr.un
    show X.A.units + 1 + 1 + b.2.depth < cLine
    omega
  · have hfin : ∀ b o, s1.heap.get? b = some o → (sortedHeap (s1.heap.push { cls := .type "list", data := .seq us'.toArray }) s1.heap.objs.size us' (List.toArray out)).get? b = some o := fun b o e => by
      rw [sortedHeap_old (Nat.ne_of_lt (Heap.lt_size e)) (by rw [Heap.size_push]; exact Nat.lt_succ_of_lt (Heap.lt_size e))]
      exact k2 b o e
    obtain ⟨c, hc2⟩ := sortedHeap_at (out := List.toArray out) ho
    have pm : ((vs.zip ds).mergeSort (dataLe false Prod.snd)).Perm (vs.zip ds) := List.mergeSort_perm _ _
    have mm : ((vs.zip ds).mergeSort (dataLe false Prod.snd)).map Prod.snd = ds.mergeSort (dataLe false id) := by
      have t := sort_maps (r := dataLe false Prod.snd) (s := dataLe false id) Prod.snd (l := vs.zip ds) (fun _ _ _ _ => rfl)
      rw [e3] at t
      exact t
    have hf : H1 s1.heap.objs.size = none := I1.hok.fresh (Nat.le_refl _)
    have hv := each_vals eo
    rw [sort_is G.perm G.lt] at mm
    refine wpAny_pure ⟨_, rfl, .ref s1.heap.objs.size, _, I1.laid (t' := s1.toks) (o := .lst (((vs.zip ds).mergeSort (dataLe false Prod.snd)).map Prod.fst)) hfin (Nat.le_refl _) ?_, rfl, q _ F1 _ (g1.trans (Gr.raw g1.fh hf)) ⟨_, _, rfl, g1.fh.free hf, upd_same, ?_⟩ (nol (g1.h.free hf))⟩
    · refine ⟨?_, out, c, hv, hc2⟩
      rw [hv.length, hout, ez]
      exact Nat.le_of_lt (small1000 hL)
    · rw [← mm]
      exact rpAll_pairs fun q hq => rpAll_zip r1 q (pm.mem_iff.mp hq)
section
variable {X : Cx} {e a b o i : Expr} {pos pos2 : Pos} {B : Bs} {ρ ρ' : List Sl} {s s1 s2 : Sl} {d : PyData} {p p2 : Pos}
theorem eN_inj : ∀ {p q : PKey}, eN p = eN q → p = q := fun {p q} h => by
  unfold eN at h
  injection h with h
  injection h with h1 h2
  injection h1 with h1
  injection h2 with h2 _
  unfold dI at h2
  injection h2 with h2
  exact Prod.ext h1 (List.map_inj_right (fun x y h => by injection h) |>.mp h2)
theorem dsortSetP {n : Nat} {ks es : List PKey} (hr : Room n X.A) (hc : X.calm = true) (hm : X.mg "sorted" = none) (hm2 : X.mg "set" = none) (h : PE X e (tV X.w B ρ (.ol (ks.map eN)))) (hl : ks.length ≤ 4) (hle : es.length ≤ 4)
    (hinj : ∀ p ∈ ks, ∀ q ∈ ks, phash p = phash q → p = q) (hs : es.Pairwise fun p q => dataLt (eN p) (eN q) = true) (hnd : es.Nodup) (hmem : ∀ x, x ∈ es ↔ x ∈ ks)
    (hg : Gl X "sorted" := by rfl) (hg2 : Gl X "set" := by rfl) (he : starEach (.Call (.Name "set" p2) [e] [] pos2 :: []) X.env = (false, eval (.Call (.Name "set" p2) [e] [] pos2) X.env) :: starEach [] X.env := by rfl) (he2 : starEach (e :: []) X.env = (false, eval e X.env) :: starEach [] X.env := by rfl)
    (hpl : (backTo pos (starEach [] X.env)).any (·.1) = false := by rfl) (hpl2 : (backTo pos2 (starEach [] X.env)).any (·.1) = false := by rfl) :
    PE X (.Call (.Name "sorted" p) [.Call (.Name "set" p2) [e] [] pos2] [] pos) (tN X.w B ρ (.ol (es.map eN))) :=
  weakE (pe_callB (cr_sortP hr) hg hm boot_sorted' (pa_cons (pe_callTy (cr_setP hc hr.units) hg2 hm2 boot_set' (pa_cons h pa_nil he2) (by decide) (by decide) he2 hpl2) pa_nil he) (by decide) (by decide) he hpl) fun σ H Q ⟨F, a, k⟩ => by
    refine ⟨F, a, fun v F1 H1 g ⟨q, xs, ev, fq, hq, r⟩ => ?_⟩
    subst ev
    obtain ⟨ps, e1, e2, e3⟩ := addrsP r
    subst e1
    have hmk : ∀ p ∈ ps, p.2 ∈ ks := fun p hp => by rw [← e2]; exact List.mem_map_of_mem hp
    refine ⟨q, F1, ps, rfl, g.fh, SqL.of hq, e3, by have := congrArg List.length e2; rw [List.length_map] at this; omega, fun x hx y hy => hinj _ (hmk x hx) _ (hmk y hy), fun A L hA hL1 hL2 hnL => ?_⟩
    have hsm : Same H1 (upd H1 A (SPO X.prog X.w A L)) := same_upd hA
    have g2 : Gr F1 H1 F1 (upd H1 A (SPO X.prog X.w A L)) := Gr.raw g.fh hA
    have hrL : ∀ p ∈ L, Rp F1 (.ref p.1) (eN p.2) := fun p hp => e3 p (hL1 p hp)
    have pm : es.Perm (L.map (·.2)) := (List.perm_ext_iff_of_nodup hnd hnL).mpr fun x => by
      rw [hmem, ← e2]
      constructor
      · intro hx
        obtain ⟨t, ht, et⟩ := List.mem_map.mp hx
        rw [← et]; exact hL2 t ht
      · intro hx
        obtain ⟨t, ht, et⟩ := List.mem_map.mp hx
        exact List.mem_map.mpr ⟨t, hL1 t ht, et⟩
    have hLl : L.length ≤ 4 := by
      have := pm.length_eq
      rw [List.length_map] at this
      omega
    refine ⟨.ref A, F1, es.map eN, rfl, fun pins s σ u Q E I ru q => coll_setP hc g2.fh upd_same (by omega) hrL pins s σ u Q E I ru fun us s' L' I' pm' rv => ?_, fun v F' H' g3 o nf => k _ F' H' ((g.trans g2).trans g3) o fun b hb hv => g.h.free (hsm.free (nf b hb hv))⟩
    have pm2 : es.Perm (L'.map (·.2)) := pm.trans (pm'.symm.map _)
    refine q us s' F1 _ _ ((L'.map (·.2)).map eN) I' (Gr.refl g2.fh) rv ?_ (so_eN pm2 hs (by rw [List.length_map, pm'.length_eq]; omega))
    have : ∀ l : List (Addr × PKey), (∀ x ∈ l, Rp F1 (.ref x.1) (eN x.2)) → RpAll F1 (l.map fun q => V.ref q.1) ((l.map (·.2)).map eN) := fun l => by
      induction l with
      | nil => intro _; exact .nil
      | cons x l ih => intro hx; exact .cons (hx x List.mem_cons_self) (ih fun y hy => hx y (List.mem_cons_of_mem _ hy))
    exact this L' fun x hx => hrL x (pm'.mem_iff.mp hx)
end
end GY
namespace GY
open PySem PySem.Spec PyProof.Rows L2 PySem.W

/-! ## the leads of a rule -/
def laI (l : Lot) : Int := l.getLast?.getD 0
theorem rule_ok : ∀ n ∈ [2, 3], ∀ r ∈ rulesL n, r.length ≤ 4 ∧ ∀ p ∈ r, p.1.length ≤ 3 ∧ p.1 ∈ lotsL n := by decide +kernel
theorem rule_max : ∀ n ∈ [2, 3], ∀ r ∈ rulesL n, ((n : Int) - 1 ∈ (0 : Int) :: r.map fun p => laI p.1) ∧ ∀ y ∈ (0 : Int) :: r.map fun p => laI p.1, y ≤ (n : Int) - 1 := by decide +kernel
theorem last_at : ∀ n ∈ [2, 3], ∀ l ∈ lotsL n, L2.atI (l.map PyData.int) (-1) = some (.int (laI l)) := by
  intro n hn l hl
  have : n = 2 ∨ n = 3 := by simpa using hn
  rcases this with rfl | rfl
  · have : l = [0, 1] := by
      have e : lotsL 2 = [[0, 1]] := by decide +kernel
      rw [e] at hl
      simpa using hl
    subst this
    rfl
  · have e : lotsL 3 = [[0, 1], [0, 1, 2], [0, 2], [1, 2]] := by decide +kernel
    rw [e] at hl
    have : l = [0, 1] ∨ l = [0, 1, 2] ∨ l = [0, 2] ∨ l = [1, 2] := by simpa using hl
    rcases this with rfl | rfl | rfl | rfl <;> rfl
theorem TO_rule {n : Nat} (hn : n ∈ [2, 3]) {r : Told} (h : r ∈ rulesL n) : TO 3 (.tuple (r.map eR)) (.tuple (r.map eR)) := by
  obtain ⟨h1, h2⟩ := rule_ok n hn r h
  refine .inr ⟨_, _, .inr rfl, rfl, by rw [List.length_map]; omega, paired_map fun p hp => ?_⟩
  exact .inr ⟨_, _, .inr rfl, rfl, by simp, .cons (TO_lot 0 (.inr rfl) (by have := (h2 p hp).1; omega)) (.cons (TO_lot 0 (l := [p.2]) (.inr rfl) (by simp)) .nil)⟩
theorem nk_eR (r : Told) : nk (r.map eR) = true := by cases r <;> rfl
def Sp_all_areas (ss : List Sl) (s : Sl) : Prop := ∃ (n : Nat) (r : Told), n ∈ [2, 3] ∧ r ∈ rulesL n ∧ ss = [.pu (.tuple (r.map eR))] ∧ s = .pu (dI (fullL n))
def rowsW (r : Told) (lot : Lot) : Told := r.filter fun p => (p.1.map fun a => decide (a ∈ lot)).all id
def Sp_rows_within (ss : List Sl) (s : Sl) : Prop := ∃ (n : Nat) (r : Told) (lot : Lot), n ∈ [2, 3] ∧ r ∈ rulesL n ∧ ss = [.pu (.tuple (r.map eR)), .pu (dI lot)] ∧ s = .ol ((rowsW r lot).map eR)
/-- the pairs that a row leads to -/
def leadP (p : Lot × Int) : List Lot := (p.1.filter fun a => !decide (a = p.2)).map fun a => [a, p.2]
def leadsF (r : Told) (lot : Lot) : List Lot := (rowsW r lot).flatMap leadP
def allP : List Lot := [[0, 0], [0, 1], [0, 2], [1, 0], [1, 1], [1, 2], [2, 0], [2, 1], [2, 2]]
def leadsL (r : Told) (lot : Lot) : List Lot := allP.filter fun p => decide (p ∈ leadsF r lot)
def Sp_leads_in (ss : List Sl) (s : Sl) : Prop := ∃ (n : Nat) (r : Told) (lot : Lot), n ∈ [2, 3] ∧ r ∈ rulesL n ∧ lot ∈ subsA n ∧ ss = [.pu (.tuple (r.map eR)), .pu (dI lot)] ∧ s = .pu (.tuple ((leadsL r lot).map dI))
theorem leads_ok : ∀ n ∈ [2, 3], ∀ r ∈ rulesL n, ∀ lot ∈ subsA n, (leadsF r lot).length ≤ 8 ∧ (∀ k ∈ leadsF r lot, k ∈ allP) ∧ (leadsL r lot).length ≤ 9 := by decide +kernel
theorem allP_ok : ∀ k ∈ allP, k.length = 2 ∧ ∀ x ∈ k, 0 ≤ x ∧ x < 64 := by decide +kernel
theorem allP_pw : allP.Pairwise fun a b => TS.code 64 a < TS.code 64 b := by decide +kernel
def Sp_turned (ss : List Sl) (s : Sl) : Prop := ∃ (ks : List (Int × Int)), ks.length ≤ 100 ∧ ss = [.pu (.tuple (ks.map fun p => dI [p.1, p.2]))] ∧ s = .ol (ks.map fun p => dI [p.2, p.1])
section
variable {P : Program} {w : World} {K : PySem.W.Frag} {mg : Str → Option Value} {base : Heap} {f C : Addr} {fd : FuncData} {k : Nat}
theorem ok_all_areas (M : Mg mg) (F : Fun K "all_areas" "all_areas" s_all_areas f fd) : FnOk P w K mg base CX0 (k + 1) f fd ["rule"] (spS w Sp_all_areas) := by
  refine okD F sc_all_areas (fun ss s ⟨n, r, _, _, e, _⟩ => by rw [e]; exact ⟨rfl, no1⟩) (fun cdv A outer sh H E B ss s hr ⟨n, r, hn, hrr, e, es⟩ => ?_)
  subst e es
  obtain ⟨h1, h2⟩ := rule_ok n hn r hrr
  have h4 : 2 ≤ n ∧ n ≤ 3 := by simp at hn; omega
  refine hs_one (hs_ret (dN (deqT (dkpu (dtupRg (n := (n : Int) - 1 + 1) rfl M.tuple_ M.range_ (dadd (dmax rfl M.max_ (ns := (0 : Int) :: r.map fun p : Lot × Int => laI p.1) (deqT (dcat (dlst (ds := [.int 0]) (acons dint anil)) (dfz (dlc2 (α := Lot × Int) 1 2 eR (fun p => dI p.1) (fun p => dI [p.2]) (fun _ => true) (fun p => .int (laI p.1)) sc_all_areas.nd (iseq (dvar 0)) (fun _ _ => rfl) (fun _ _ => pts0)
    (fun p hp _ => dixd (ds := p.1.map .int) (dvar 1) (dneg dint) (last_at n hn _ (h2 p hp).2)) (by omega))) ?_) ?_) (rule_max n hn r hrr)) dint) (by omega))) ?_)) rfl)
  · rw [filt_true, List.length_map]; simp; omega
  · rw [filt_true, List.map_cons, List.map_map]; rfl
  · rw [show ((n : Int) - 1 + 1) = (n : Int) by omega, rng_full]; rfl
theorem ok_rows_within (M : Mg mg) (Gt : Cal P w K mg base CX0 k "tuple_of" ["thing"] (spS w (Sp_tuple_of 3))) (F : Fun K "rows_within" "rows_within" s_rows_within f fd) : FnOk P w K mg base CX0 (k + 1) f fd ["rule", "lot"] (spS w Sp_rows_within) := by
  refine okD F sc_rows_within (fun ss s ⟨n, r, lot, _, _, e, _⟩ => by rw [e]; exact ⟨rfl, no2⟩) (fun cdv A outer sh H E B ss s hr ⟨n, r, lot, hn, hrr, e, es⟩ => ?_)
  subst e es
  obtain ⟨h1, h2⟩ := rule_ok n hn r hrr
  refine hs_one (hs_ret (dlc2 (α := Lot × Int) 2 3 eR (fun p => dI p.1) (fun p => dI [p.2]) (fun p => (p.1.map fun a => decide (a ∈ lot)).all id) eR sc_rows_within.nd (iseq (dwh (deqT (dV (dcall Gt hr (acons (dvar 0) anil) ⟨_, _, rfl, TO_rule hn hrr, rfl⟩)) (slT_x (nk_eR r))) (nk_NK (nk_eR r)))) (fun _ _ => rfl)
    (fun p hp => pts_one (tcmp (dall rfl M.all_ (bs := p.1.map fun a => decide (a ∈ lot)) (deqT (dfz (dlc1 4 PyData.int (fun _ => true) (fun a => .bool (decide (a ∈ lot))) sc_rows_within.nd (iseq (dvar 2)) (fun _ _ => pts0) (fun a _ _ => dC (cin (dvar 4) (dvar 1))) (by have := (h2 p hp).1; omega))) (by rw [filt_true, List.map_map]; rfl)))))
    (fun p _ _ => dtup (ds := [dI p.1, dI [p.2]]) (acons (dvar 2) (acons (dvar 3) anil)) (hl := by simp)) (by omega)) rfl)
end
end GY
namespace GY
open PySem PySem.Spec PyProof.Rows L2 PySem.W
section
variable {P : Program} {w : World} {K : PySem.W.Frag} {mg : Str → Option Value} {base : Heap} {f C : Addr} {fd : FuncData} {k : Nat}
theorem ok_leads_in (M : Mg mg) (Gr : Cal P w K mg base CX0 k "rows_within" ["rule", "lot"] (spS w Sp_rows_within)) (F : Fun K "leads_in" "leads_in" s_leads_in f fd) : FnOk P w K mg base CX0 (k + 1) f fd ["rule", "lot"] (spS w Sp_leads_in) := by
  refine okD F sc_leads_in (fun ss s ⟨n, r, lot, _, _, _, e, _⟩ => by rw [e]; exact ⟨rfl, no2⟩) (fun cdv A outer sh H E B ss s hr ⟨n, r, lot, hn, hrr, hlot, e, es⟩ => ?_)
  subst e es
  obtain ⟨h1, h2⟩ := rule_ok n hn r hrr
  obtain ⟨hf1, hf2, hf3⟩ := leads_ok n hn r hrr lot hlot
  have hin : ∀ p ∈ rowsW r lot, p ∈ r := fun p hp => (List.mem_filter.mp hp).1
  refine hs_then (hs_set 2 (dlstN (ds := []) anil) sc_leads_in.nd) ?_
  refine hs_then (hs_for2 (α := Lot × Int) 3 4 (fun j => [.pu (.tuple (r.map eR)), .pu (dI lot), .ol ((((rowsW r lot).take j).flatMap leadP).map dI), .un, .un, .un, .un]) eR (fun p => dI p.1) (fun p => dI [p.2]) (xs := rowsW r lot) sc_leads_in.nd PassesOwn.never (iseq (dfz (dcall Gr hr (acons (dvar 0) (acons (dvar 1) anil)) ⟨n, r, lot, hn, hrr, rfl, rfl⟩))) (fun _ _ => rfl) rfl fun j p hp => ?_) ?_
  · have hpr := hin p (List.mem_of_getElem? hp)
    have e1 := flatMap_snoc leadP hp
    have hle : (((rowsW r lot).take j).flatMap leadP).length ≤ 8 := by
      refine Nat.le_trans ?_ hf1
      show _ ≤ ((rowsW r lot).flatMap leadP).length
      rw [← List.take_append_drop j (rowsW r lot), List.flatMap_append, List.length_append, List.take_append_drop]
      omega
    have hgl : (leadP p).length ≤ 3 := by
      unfold leadP
      rw [List.length_map]
      exact Nat.le_trans (List.length_filter_le _ _) (h2 p hpr).1
    refine hss_post (hs_one (hs_forT (α := Int) 5 PyData.int (fun q => [.pu (.tuple (r.map eR)), .pu (dI lot), .ol ((((rowsW r lot).take j).flatMap leadP ++ if q = 0 then [] else leadP p).map dI), .pu (dI p.1), .pu (dI [p.2]), .un, .un]) (xs := [p.2]) sc_leads_in.nd PassesOwn.never (iseq (dvar 4)) (by rw [if_pos rfl, List.append_nil]; rfl) fun q a ha => ?_)) fun ρ' e => ?_
    · have : q = 0 ∧ a = p.2 := by
        cases q with
        | zero => exact ⟨rfl, (Option.some.inj ha).symm⟩
        | succ q => simp at ha
      obtain ⟨rfl, rfl⟩ := this
      refine hss_post (hs_one (hs_extend 2 (ds := (((rowsW r lot).take j).flatMap leadP).map dI) (es := (leadP p).map dI) (deqT (dfz (dlc1 (α := Int) 6 PyData.int (fun a => !decide (a = p.2)) (fun a => dI [a, p.2]) sc_leads_in.nd (iseq (dvar 3)) (fun _ _ => pts_one (tC (cneI (dvar 6) (dvar 5)))) (fun a _ _ => dtup (ds := [.int a, .int p.2]) (acons (dvar 6) (acons (dvar 5) anil)) (hl := by simp)) (by have := (h2 p hpr).1; omega))) (by unfold leadP; rw [List.map_map]; rfl)) (by rw [List.length_map, List.length_map]; omega) (by show some (Sl.ol _) = _; rw [if_pos rfl, List.append_nil]))) fun ρ' e => ?_
      subst e
      refine Up.to (ρ' := _) ?_ rfl
      show Fgt [_, _, Sl.ol ((((rowsW r lot).take j).flatMap leadP).map dI ++ (leadP p).map dI), _, _, _, _] [_, _, Sl.ol ((((rowsW r lot).take j).flatMap leadP ++ leadP p).map dI), _, _, _, _]
      rw [← List.map_append]
      exact .keep (.keep (.keep (.keep (.keep (.drop (.keep .nil))))))
    · subst e
      refine Up.to (ρ' := _) ?_ rfl
      rw [e1]
      show Fgt [_, _, Sl.ol ((((rowsW r lot).take j).flatMap leadP ++ if (1 : Nat) = 0 then [] else leadP p).map dI), _, _, _, _] _
      rw [if_neg (show ¬ ((1 : Nat) = 0) from Nat.succ_ne_zero 0)]
      exact .keep (.keep (.keep (.drop (.drop (.keep (.keep .nil))))))
  · rw [List.take_length]
    refine hs_one (hs_ret (dN (dtupleO M.tuple_ (dV (dsortSet (ks := leadsF r lot) (es := leadsL r lot) hr rfl M.sorted_ M.set_ (dvar 2) (fun k hk => ?_) (by omega) ?_ fun x => ?_)))) rfl)
    · have := allP_ok k (hf2 k hk)
      exact this
    · exact allP_pw.sublist (List.filter_sublist ..)
    · unfold leadsL
      rw [List.mem_filter]
      constructor
      · rintro ⟨_, h⟩; exact of_decide_eq_true h
      · intro h; exact ⟨hf2 x h, decide_eq_true h⟩
theorem ok_turned (M : Mg mg) (F : Fun K "turned" "turned" s_turned f fd) : FnOk P w K mg base CX0 (k + 1) f fd ["pairs"] (spS w Sp_turned) := by
  refine okD F sc_turned (fun ss s ⟨ks, _, e, _⟩ => by rw [e]; exact ⟨rfl, no1⟩) (fun cdv A outer sh H E B ss s hr ⟨ks, hk, e, es⟩ => ?_)
  subst e es
  refine hs_one (hs_ret (deqN (dlc2 (α := Int × Int) 1 2 (fun p => dI [p.1, p.2]) (fun p => .int p.1) (fun p => .int p.2) (fun _ => true) (fun p => dI [p.2, p.1]) (xs := ks) sc_turned.nd (iseq (dvar 0)) (fun _ _ => rfl) (fun _ _ => pts0)
    (fun p _ _ => dtup (ds := [.int p.2, .int p.1]) (acons (dvar 2) (acons (dvar 1) anil)) (hl := by simp)) (by omega)) (by rw [filt_true])) rfl)
end
end GY
namespace GY
open PySem PySem.Spec PyProof.Rows L2 PySem.W

/-! ## flooded -/
abbrev St2 := Lot × Lot
def stepP (h : Int) (st : St2) (p : Int × Int) : St2 := if (decide (p.1 = h) && !decide (p.2 ∈ st.1)) = true then (st.1 ++ [p.2], st.2 ++ [p.2]) else st
def stepF (bs : List (Int × Int)) (st : St2) : St2 := bs.foldl (stepP (laI st.2)) (st.1, st.2.dropLast)
def trF (bs : List (Int × Int)) (a : Int) : Nat → St2
  | 0 => ([a], [a])
  | k + 1 => if (trF bs a k).2 = [] then trF bs a k else stepF bs (trF bs a k)
def floodL (bs : List (Int × Int)) (a : Int) : Lot := (fullL 3).filter fun x => decide (x ∈ (trF bs a 4).1)
structure GoodF (bs : List (Int × Int)) (a : Int) : Prop where
  len : bs.length ≤ 10
  sz : ∀ k ∈ List.range 5, (trF bs a k).1.length ≤ 10 ∧ (trF bs a k).2.length ≤ 10
  fin : (trF bs a 4).2 = []
  pm : ∀ k ∈ List.range 5, (trF bs a k).2 = [] → (floodL bs a).Perm (trF bs a k).1
def Sp_flooded (ss : List Sl) (s : Sl) : Prop := ∃ (bs : List (Int × Int)) (a : Int), GoodF bs a ∧ ss = [.pu (.list (bs.map fun p => dI [p.1, p.2])), .pu (.int a)] ∧ s = .pu (.tuple ((floodL bs a).map .int))
theorem full3_pw : (fullL 3).Pairwise fun p q => p < q := by decide +kernel
theorem stepP_len (h : Int) : ∀ (bs : List (Int × Int)) (st : St2), (bs.foldl (stepP h) st).1.length ≤ st.1.length + bs.length ∧ (bs.foldl (stepP h) st).2.length ≤ st.2.length + bs.length
  | [], st => ⟨Nat.le_refl _, Nat.le_refl _⟩
  | b :: bs, st => by
    have ih := stepP_len h bs (stepP h st b)
    have h1 : (stepP h st b).1.length ≤ st.1.length + 1 ∧ (stepP h st b).2.length ≤ st.2.length + 1 := by
      unfold stepP
      split
      · simp
      · simp
    rw [List.foldl_cons, List.length_cons]
    omega
theorem last_split {l : Lot} (h : l ≠ []) : l = l.dropLast ++ [laI l] := by
  have e : l.getLast? = some (l.getLast h) := List.getLast?_eq_some_getLast h
  unfold laI
  rw [e]
  exact (List.dropLast_concat_getLast h).symm
section
variable {P : Program} {w : World} {K : PySem.W.Frag} {mg : Str → Option Value} {base : Heap} {f C : Addr} {fd : FuncData} {k : Nat}
theorem ok_flooded (M : Mg mg) (F : Fun K "flooded" "flooded" s_flooded f fd) : FnOk P w K mg base CX0 (k + 1) f fd ["pairs", "area"] (spS w Sp_flooded) := by
  refine okD F sc_flooded (fun ss s ⟨bs, a, _, e, _⟩ => by rw [e]; exact ⟨rfl, no2⟩) (fun cdv A outer sh H E B ss s hr ⟨bs, a, G, e, es⟩ => ?_)
  subst e es
  refine hs_then (hs_par 2 3 (s1 := .ol [.int a]) (s2 := .ol [.int a]) (dlstN (ds := [.int a]) (acons (dvar 1) anil) (hl := by simp)) (dlstN (ds := [.int a]) (acons (dvar 1) anil) (hl := by simp)) rfl sc_flooded.nd) ?_
  refine hs_cons (hs_while (α := Nat) (fun k => [.pu (.list (bs.map fun p => dI [p.1, p.2])), .pu (.int a), .ol ((trF bs a k).1.map .int), .ol ((trF bs a k).2.map .int), .un, .un, .un]) (fun k => k ≤ 4) (fun k => decide ((0 : Int) < (((trF bs a k).2.map PyData.int).length : Int))) (fun k => 4 - k) PassesOwn.never
    (fun j _ => tC (cgt (dlenO M.len_ (dvar 3)) dint)) (fun j hj ht => ?_) 0 (by omega) rfl) fun ρ' ⟨j, hj, ht, e⟩ => ?_
  · have hne : (trF bs a j).2 ≠ [] := fun z => by
      have := of_decide_eq_true ht
      rw [z] at this
      exact absurd this (by simp)
    have hj4 : j < 4 := by
      rcases Nat.lt_or_ge j 4 with c | c
      · exact c
      · have : j = 4 := by omega
        subst this
        exact absurd G.fin hne
    have enext : trF bs a (j + 1) = stepF bs (trF bs a j) := by rw [trF, if_neg hne]
    have hsz := G.sz j (by simp; omega)
    have hsp := last_split hne
    let st : Nat → St2 := fun q => (bs.take q).foldl (stepP (laI (trF bs a j).2)) ((trF bs a j).1, (trF bs a j).2.dropLast)
    refine hs_then (hs_setPop 3 4 (ds := ((trF bs a j).2.dropLast).map .int) (d := .int (laI (trF bs a j).2)) (by
      show some (Sl.ol ((trF bs a j).2.map .int)) = _
      conv => lhs; rw [hsp]
      rw [List.map_append]; rfl) sc_flooded.nd) ?_
    refine hss_post (hs_one (hs_for2 (α := Int × Int) 5 6 (fun q => [.pu (.list (bs.map fun p => dI [p.1, p.2])), .pu (.int a), .ol ((st q).1.map .int), .ol ((st q).2.map .int), .pu (.int (laI (trF bs a j).2)), .un, .un]) (fun p => dI [p.1, p.2]) (fun p => .int p.1) (fun p => .int p.2) (xs := bs) sc_flooded.nd PassesOwn.never (iseq (dvar 0)) (fun _ _ => rfl) rfl fun q p hp => ?_)) fun ρ' e => ?_
    · have e1 : st (q + 1) = stepP (laI (trF bs a j).2) (st q) p := foldl_snoc (fun st p => stepP (laI (trF bs a j).2) st p) ((trF bs a j).1, (trF bs a j).2.dropLast) hp
      have hl := stepP_len (laI (trF bs a j).2) (bs.take q) ((trF bs a j).1, (trF bs a j).2.dropLast)
      have hb := G.len
      have hd : (trF bs a j).2.dropLast.length ≤ 10 := by rw [List.length_dropLast]; omega
      rw [List.length_take] at hl
      have hl1 : (st q).1.length ≤ 20 := by show (((bs.take q).foldl (stepP (laI (trF bs a j).2)) ((trF bs a j).1, (trF bs a j).2.dropLast)).1).length ≤ 20; have := hl.1; dsimp only at this; omega
      have hl2 : (st q).2.length ≤ 20 := by show (((bs.take q).foldl (stepP (laI (trF bs a j).2)) ((trF bs a j).1, (trF bs a j).2.dropLast)).2).length ≤ 20; have := hl.2; dsimp only at this; omega
      generalize st q = sq at e1 hl1 hl2 ⊢
      refine hs_one (hs_if (b := decide (p.1 = laI (trF bs a j).2) && !decide (p.2 ∈ sq.1)) (PW.pt (tand2 (tC (ceqI (dvar 5) (dvar 4))) fun _ => tand1 (tC (cninO (ns := sq.1) (dvar 6) (dvar 2))))) (fun hb => ?_) fun hb => ?_)
      · refine hs_then (hs_append 2 (ds := sq.1.map .int) (d := .int p.2) (dvar 6) (by rw [List.length_map]; omega)) ?_
        refine hss_post (hs_one (hs_append 3 (ds := sq.2.map .int) (d := .int p.2) (dvar 6) (by rw [List.length_map]; omega))) fun ρ' e => ?_
        subst e
        refine Up.to (ρ' := _) ?_ rfl
        rw [e1]
        unfold stepP
        rw [if_pos hb]
        show Fgt [_, _, Sl.ol (sq.1.map .int ++ [PyData.int p.2]), Sl.ol (sq.2.map .int ++ [PyData.int p.2]), _, _, _] [_, _, Sl.ol ((sq.1 ++ [p.2]).map .int), Sl.ol ((sq.2 ++ [p.2]).map .int), _, _, _]
        rw [List.map_append, List.map_append]
        exact .keep (.keep (.keep (.keep (.keep (.drop (.drop .nil))))))
      · refine hss_post hs_nil fun ρ' e => ?_
        subst e
        refine Up.to (ρ' := _) ?_ rfl
        rw [e1]
        unfold stepP
        rw [if_neg (by rw [hb]; exact Bool.false_ne_true)]
        exact .keep (.keep (.keep (.keep (.keep (.drop (.drop .nil))))))
    · subst e
      refine Up.to (ρ' := [.pu (.list (bs.map fun p => dI [p.1, p.2])), .pu (.int a), .ol ((trF bs a (j + 1)).1.map .int), .ol ((trF bs a (j + 1)).2.map .int), .un, .un, .un]) ?_ ⟨j + 1, by omega, by omega, rfl⟩
      have efin : st bs.length = trF bs a (j + 1) := by
        rw [enext]
        show (bs.take bs.length).foldl _ _ = _
        rw [List.take_length]
        rfl
      rw [efin]
      exact .keep (.keep (.keep (.keep (.drop (.keep (.keep .nil))))))
  · subst e
    have hnil : (trF bs a j).2 = [] := by
      have := of_decide_eq_false ht
      rw [List.length_map] at this
      exact List.length_eq_zero_iff.mp (by omega)
    have hsz := G.sz j (by simp; omega)
    exact hs_one (hs_ret (dN (dtupleO M.tuple_ (dV (dsortedO hr M.sorted_ (dvar 2) (so_ints (G.pm j (by simp; omega) hnil) (full3_pw.sublist (List.filter_sublist ..)) (by omega)))))) rfl)
end
end GY
namespace GY
open PySem PySem.Spec PyProof.Rows L2 PySem.W

/-! ## a list of the frame's own, never changed again -/
theorem AS.frz {w : World} {B : Bs} {ρ : List Sl} {F H : Hp} {σ : L2.St} (a : AS w B ρ F σ H) {i : Nat} {ds : List PyData} (e : ρ[i]? = some (.ol ds)) : ∃ F', Same F F' ∧ AS w B (ρ.set i (.pu (.list ds))) F' σ H := by
  obtain ⟨v, hv, p, xs, ev, hn, hp, r⟩ := a.ok i _ e (fun z => by cases z)
  subst ev
  have hi : i < ρ.length := (List.getElem?_eq_some_iff.mp e).1
  obtain ⟨s1, s2⟩ := same_freeze a.fh hp hn
  have hB := a.nw i _ p e rfl hv
  refine ⟨upd F p (.lst xs), s1, ⟨⟨fun b o z => s1 b o (a.gr.f b o z), a.gr.h, s2, fun b z t => ?_⟩, by rw [List.length_set]; exact a.len, fun j s ej n => ?_, fun j s q ej ho hq => ?_, fun j l s t q hjl ej el ho1 ho2 hq => ?_⟩⟩
  · obtain ⟨o, eo, _⟩ := id t
    rw [upd_ne (fun z2 => by rw [z2, hB] at eo; cases eo)]
    exact a.gr.nw b z t
  · by_cases hj : i = j
    · subst hj
      rw [List.getElem?_set_self hi] at ej
      cases ej
      exact ⟨_, hv, .lst upd_same (RpAll.mono s1 _ _ r)⟩
    · rw [List.getElem?_set_ne hj] at ej
      obtain ⟨u, hu, ok⟩ := a.ok j s ej n
      refine ⟨u, hu, ?_⟩
      have ne : ∀ q, s.own = true → u = .ref q → q ≠ p := fun q ho eq z => by
        subst eq z
        exact a.dj i j _ _ q hj e ej rfl ho hv hu
      cases s with
      | un => trivial
      | pu d => exact Rp.mono s1 _ _ ok
      | ol es => obtain ⟨q, ys, eu, m, hq, r'⟩ := ok; exact ⟨q, ys, eu, by rw [upd_ne (ne q rfl eu)]; exact m, hq, RpAll.mono s1 _ _ r'⟩
      | od kvs => obtain ⟨q, ws, eu, m, hq, r'⟩ := ok; exact ⟨q, ws, eu, by rw [upd_ne (ne q rfl eu)]; exact m, hq, r'.mono s1⟩
      | fd kvs => obtain ⟨q, ws, eu, hq, r'⟩ := ok; exact ⟨q, ws, eu, s1 _ _ hq, r'.mono s1⟩
      | ss S n => obtain ⟨q, eu, hq⟩ := ok; exact ⟨q, eu, s1 _ _ hq⟩
      | kt k => obtain ⟨q, eu, hq⟩ := ok; exact ⟨q, eu, s1 _ _ hq⟩
      | ad u => exact ok
      | ur q n => obtain ⟨x, y, z, eu, m, hq, b⟩ := ok; exact ⟨x, y, z, eu, by rw [upd_ne (ne q rfl eu)]; exact m, hq, b⟩
      | uv q x y z => obtain ⟨eu, m, hq⟩ := ok; exact ⟨eu, by rw [upd_ne (ne q rfl eu)]; exact m, hq⟩
  · by_cases hj : i = j
    · subst hj
      rw [List.getElem?_set_self hi] at ej
      cases ej
      cases ho
    · rw [List.getElem?_set_ne hj] at ej
      exact a.nw j s q ej ho hq
  · by_cases hj : i = j
    · subst hj
      rw [List.getElem?_set_self hi] at ej
      cases ej
      cases ho1
    · by_cases hl : i = l
      · subst hl
        rw [List.getElem?_set_self hi] at el
        cases el
        cases ho2
      · rw [List.getElem?_set_ne hj] at ej
        rw [List.getElem?_set_ne hl] at el
        exact a.dj j l s t q hjl ej el ho1 ho2 hq
section
variable {X : Cx} {B : Bs} {ρ : List Sl} {N : List Sl → Prop} {R : Sl → List Sl → Prop} {sts : List Stmt}
theorem hs_frz (i : Nat) {ds : List PyData} (hρ : ρ[i]? = some (.ol ds)) (h : PSs X sts (tH X.w B (ρ.set i (.pu (.list ds))) N R)) : PSs X sts (tH X.w B ρ N R) :=
  weakSs h fun D σ H ⟨F, a, k, r⟩ => by
    obtain ⟨F', e, a'⟩ := a.frz hρ
    exact ⟨F', a', fun F2 ρ2 σ2 H2 e2 n a2 => k F2 ρ2 σ2 H2 (e.trans e2) n a2, r⟩
end

/-! ## closed_in -/
def pairK (l : Lot) : Int × Int := (l.headD 0, (l.drop 1).headD 0)
def leadsK (r : Told) (lot : Lot) : List (Int × Int) := (leadsL r lot).map pairK
def backsK (r : Told) (lot : Lot) : List (Int × Int) := (leadsK r lot).map fun p => (p.2, p.1)
def foundL (r : Told) (lot : Lot) : List Lot := lot.map (floodL (backsK r lot))
/-- all lots, by size, then by value -/
def sizeP : List Lot := [[], [0], [1], [2], [0, 1], [0, 2], [1, 2], [0, 1, 2]]
def closedL (r : Told) (lot : Lot) : List Lot := sizeP.filter fun l => decide (l ∈ foundL r lot)
def goodB (bs : List (Int × Int)) (a : Int) : Bool := decide (bs.length ≤ 10) && ((List.range 5).all fun k => decide ((trF bs a k).1.length ≤ 10) && decide ((trF bs a k).2.length ≤ 10)) && decide ((trF bs a 4).2 = []) &&
  (List.range 5).all fun k => decide ((trF bs a k).2 ≠ []) || (floodL bs a).isPerm (trF bs a k).1
theorem goodF_of {bs : List (Int × Int)} {a : Int} (h : goodB bs a = true) : GoodF bs a := by
  unfold goodB at h
  simp only [Bool.and_eq_true, decide_eq_true_eq, List.all_eq_true, Bool.or_eq_true] at h
  obtain ⟨⟨⟨h1, h2⟩, h3⟩, h4⟩ := h
  refine ⟨h1, h2, h3, fun k hk hn => ?_⟩
  rcases h4 k hk with z | z
  · exact absurd hn z
  · exact List.isPerm_iff.mp z
theorem closed_ok : ∀ n ∈ [2, 3], ∀ r ∈ rulesL n, ∀ lot ∈ subsA n, (leadsK r lot).map (fun p => [p.1, p.2]) = leadsL r lot ∧ (∀ a ∈ lot, goodB (backsK r lot) a = true) ∧ lot.length ≤ 3 ∧ (∀ l ∈ foundL r lot, l ∈ sizeP) ∧ (leadsK r lot).length ≤ 9 := by decide +kernel
theorem sizeP_pw : sizeP.Pairwise fun p q => dataLt (eN (lenE p)) (eN (lenE q)) = true := by decide +kernel
theorem sizeP_nd : sizeP.Nodup := by decide +kernel
theorem sizeP_inj : ∀ p ∈ sizeP, ∀ q ∈ sizeP, phash (lenE p) = phash (lenE q) → p = q := by decide +kernel
def Sp_closed_in (ss : List Sl) (s : Sl) : Prop := ∃ (n : Nat) (r : Told) (lot : Lot), n ∈ [2, 3] ∧ r ∈ rulesL n ∧ lot ∈ subsA n ∧ ss = [.pu (.tuple (r.map eR)), .pu (dI lot)] ∧ s = .ol ((closedL r lot).map dI)
end GY
namespace GY
open PySem PySem.Spec PyProof.Rows L2 PySem.W
theorem closed_len : ∀ n ∈ [2, 3], ∀ r ∈ rulesL n, ∀ lot ∈ subsA n, (closedL r lot).length ≤ 3 := by decide +kernel
section
variable {P : Program} {w : World} {K : PySem.W.Frag} {mg : Str → Option Value} {base : Heap} {f C : Addr} {fd : FuncData} {k : Nat}
theorem ok_closed_in (M : Mg mg) (Gl : Cal P w K mg base CX0 k "leads_in" ["rule", "lot"] (spS w Sp_leads_in)) (Gt : Cal P w K mg base CX0 k "turned" ["pairs"] (spS w Sp_turned)) (Gf : Cal P w K mg base CX0 k "flooded" ["pairs", "area"] (spS w Sp_flooded)) (F : Fun K "closed_in" "closed_in" s_closed_in f fd) : FnOk P w K mg base CX0 (k + 1) f fd ["rule", "lot"] (spS w Sp_closed_in) := by
  refine okD F sc_closed_in (fun ss s ⟨n, r, lot, _, _, _, e, _⟩ => by rw [e]; exact ⟨rfl, no2⟩) (fun cdv A outer sh H E B ss s hr ⟨n, r, lot, hn, hrr, hlot, e, es⟩ => ?_)
  subst e es
  obtain ⟨c1, c2, c3, c4, c5⟩ := closed_ok n hn r hrr lot hlot
  have c6 := closed_len n hn r hrr lot hlot
  have eL : (leadsL r lot).map dI = (leadsK r lot).map fun p => dI [p.1, p.2] := by
    rw [← c1, List.map_map]; rfl
  have eB : (leadsK r lot).map (fun p => dI [p.2, p.1]) = (backsK r lot).map fun p => dI [p.1, p.2] := by
    unfold backsK; rw [List.map_map]; rfl
  refine hs_then (hs_set 2 (s := .pu (.list ((backsK r lot).map fun p => dI [p.1, p.2]))) (dN (dfz (deqN (dcall Gt hr (acons (deqT (dV (dcall Gl hr (acons (dvar 0) (acons (dvar 1) anil)) ⟨n, r, lot, hn, hrr, hlot, rfl, rfl⟩)) (by rw [eL])) anil) ⟨leadsK r lot, by omega, rfl, rfl⟩) (by rw [eB])))) sc_closed_in.nd) ?_
  refine hs_then (hs_setLc1 (α := Int) 3 4 PyData.int (fun _ => true) (fun a => dI (floodL (backsK r lot) a)) sc_closed_in.nd (iseq (dvar 1)) (fun _ _ => pts0) (fun a ha _ => dV (dcall Gf hr (acons (dvar 2) (acons (dvar 4) anil)) ⟨backsK r lot, a, goodF_of (c2 a ha), rfl, rfl⟩)) (by omega)) ?_
  refine hs_frz 3 (ds := (foundL r lot).map dI) (by rw [filt_true]; unfold foundL; rw [List.map_map]; rfl) ?_
  have cl : (foundL r lot).length ≤ 3 := by unfold foundL; rw [List.length_map]; exact c3
  have hinj : ∀ p ∈ (foundL r lot).map lenE, ∀ q ∈ (foundL r lot).map lenE, phash p = phash q → p = q := fun p hp q hq h => by
    obtain ⟨x, hx, rfl⟩ := List.mem_map.mp hp
    obtain ⟨y, hy, rfl⟩ := List.mem_map.mp hq
    rw [sizeP_inj x (c4 x hx) y (c4 y hy) h]
  refine hs_one (hs_ret (deqN (dlc2 (α := Int × Lot) 5 6 eN (fun p => .int p.1) (fun p => dI p.2) (fun _ => true) (fun p => dI p.2) (xs := (closedL r lot).map lenE) sc_closed_in.nd
    (iseq (dfz (dsortSetP (ks := (foundL r lot).map lenE) (es := (closedL r lot).map lenE) hr rfl M.sorted_ M.set_ (deqT (dV (dlc1 (α := Lot) 6 dI (fun _ => true) (fun l => eN (lenE l)) (xs := foundL r lot) sc_closed_in.nd (iseq (dvar 3)) (fun _ _ => pts0)
      (fun l _ _ => dtup (ds := [.int (l.length : Int), dI l]) (acons (deqT (dlen M.len_ (dvar 6)) (by rw [List.length_map])) (acons (dvar 6) anil)) (hl := by simp)) (by omega))) (by rw [filt_true, List.map_map]; rfl)) (by rw [List.length_map]; omega) (by rw [List.length_map]; omega) hinj ?_ ?_ ?_)))
    (fun _ _ => rfl) (fun _ _ => pts0) (fun p _ _ => dvar 6) (by rw [List.length_map]; omega)) (by rw [filt_true, List.map_map]; rfl)) rfl)
  · exact List.pairwise_map.mpr (sizeP_pw.sublist (List.filter_sublist ..))
  · refine (List.pairwise_map.mpr ?_)
    refine List.Pairwise.imp ?_ (sizeP_nd.sublist (List.filter_sublist ..))
    intro a b hab h
    exact hab (congrArg Prod.snd h)
  · intro x
    constructor
    · intro hx
      obtain ⟨l, hl, rfl⟩ := List.mem_map.mp hx
      exact List.mem_map_of_mem (of_decide_eq_true (List.mem_filter.mp hl).2)
    · intro hx
      obtain ⟨l, hl, rfl⟩ := List.mem_map.mp hx
      exact List.mem_map_of_mem (List.mem_filter.mpr ⟨c4 l hl, decide_eq_true hl⟩)
end
end GY
namespace GY
open PySem PySem.Spec PyProof.Rows L2 PySem.W

/-! ## the chain of a rule, its width -/
def firL (r : Told) (lot : Lot) : Lot := ((closedL r lot).head?).getD []
def chS (n : Nat) (r : Told) : Nat → List Lot × Lot
  | 0 => ([], fullL n)
  | k + 1 => let s := chS n r k; if s.2 = [] then s else (s.1 ++ [firL r s.2], s.2.filter fun a => !decide (a ∈ firL r s.2))
def chainL (n : Nat) (r : Told) : List Lot := (chS n r 4).1
def widthL (n : Nat) (r : Told) : Int := ((chainL n r).map fun l => (l.length : Int)).foldr max 0
theorem chain_ok : ∀ n ∈ [2, 3], ∀ r ∈ rulesL n, (chS n r 4).2 = [] ∧ ∀ k ∈ List.range 5, (chS n r k).2 ∈ subsA n ∧ (chS n r k).2.length ≤ 3 ∧ (chS n r k).1.length ≤ 4 ∧ ((chS n r k).2 ≠ [] → (closedL r (chS n r k).2).head? = some (firL r (chS n r k).2) ∧ (firL r (chS n r k).2).length ≤ 3) ∧ ((chS n r k).2 = [] → (chS n r k).1 = chainL n r) := by decide +kernel
theorem width_ok : ∀ n ∈ [2, 3], ∀ r ∈ rulesL n, (widthL n r ∈ (chainL n r).map fun l => (l.length : Int)) ∧ (∀ y ∈ (chainL n r).map fun l => (l.length : Int), y ≤ widthL n r) ∧ (chainL n r).length ≤ 4 := by decide +kernel
def Sp_first_lot (ss : List Sl) (s : Sl) : Prop := ∃ (n : Nat) (r : Told) (lot l : Lot), n ∈ [2, 3] ∧ r ∈ rulesL n ∧ lot ∈ subsA n ∧ (closedL r lot).head? = some l ∧ ss = [.pu (.tuple (r.map eR)), .pu (dI lot)] ∧ s = .pu (dI l)
def Sp_chain_in (ss : List Sl) (s : Sl) : Prop := ∃ (n : Nat) (r : Told), n ∈ [2, 3] ∧ r ∈ rulesL n ∧ ss = [.pu (.tuple (r.map eR)), .pu (dI (fullL n))] ∧ s = .pu (.tuple ((chainL n r).map dI))
def Sp_chain_of (ss : List Sl) (s : Sl) : Prop := ∃ (n : Nat) (r : Told), n ∈ [2, 3] ∧ r ∈ rulesL n ∧ ss = [.pu (.tuple (r.map eR))] ∧ s = .pu (.tuple ((chainL n r).map dI))
def Sp_width (ss : List Sl) (s : Sl) : Prop := ∃ (n : Nat) (r : Told), n ∈ [2, 3] ∧ r ∈ rulesL n ∧ ss = [.pu (.tuple (r.map eR))] ∧ s = .pu (.int (widthL n r))
section
variable {P : Program} {w : World} {K : PySem.W.Frag} {mg : Str → Option Value} {base : Heap} {f C : Addr} {fd : FuncData} {k : Nat}
theorem ok_first_lot (Gc : Cal P w K mg base CX0 k "closed_in" ["rule", "lot"] (spS w Sp_closed_in)) (F : Fun K "first_lot" "first_lot" s_first_lot f fd) : FnOk P w K mg base CX0 (k + 1) f fd ["rule", "lot"] (spS w Sp_first_lot) := by
  refine okD F sc_first_lot (fun ss s ⟨n, r, lot, l, _, _, _, _, e, _⟩ => by rw [e]; exact ⟨rfl, no2⟩) (fun cdv A outer sh H E B ss s hr ⟨n, r, lot, l, hn, hrr, hlot, hl, e, es⟩ => ?_)
  subst e es
  exact hs_one (hs_ret (dN (dixd (ds := (closedL r lot).map dI) (dfz (dcall Gc hr (acons (dvar 0) (acons (dvar 1) anil)) ⟨n, r, lot, hn, hrr, hlot, rfl, rfl⟩)) dint (atI_head (by rw [List.head?_map, hl]; rfl)))) rfl)
theorem ok_chain_in (M : Mg mg) (Gt : Cal P w K mg base CX0 k "tuple_of" ["thing"] (spS w (Sp_tuple_of 1))) (Gf : Cal P w K mg base CX0 k "first_lot" ["rule", "lot"] (spS w Sp_first_lot)) (F : Fun K "chain_in" "chain_in" s_chain_in f fd) : FnOk P w K mg base CX0 (k + 1) f fd ["rule", "lot"] (spS w Sp_chain_in) := by
  refine okD F sc_chain_in (fun ss s ⟨n, r, _, _, e, _⟩ => by rw [e]; exact ⟨rfl, no2⟩) (fun cdv A outer sh H E B ss s hr ⟨n, r, hn, hrr, e, es⟩ => ?_)
  subst e es
  obtain ⟨c1, c2⟩ := chain_ok n hn r hrr
  have h3 : (fullL n).length ≤ 3 := (c2 0 (by simp)).2.1
  refine hs_then (hs_par 2 3 (s1 := .ol []) (s2 := .pu (dI (fullL n))) (dlstN (ds := []) anil) (dN (slT_pu (dV (dcall Gt hr (acons (dvar 1) anil) ⟨_, _, rfl, TO_lot 0 (.inr rfl) (by omega), rfl⟩)))) rfl sc_chain_in.nd) ?_
  refine hs_cons (hs_while (α := Nat) (fun k => [.pu (.tuple (r.map eR)), .pu (dI (fullL n)), .ol ((chS n r k).1.map dI), .pu (dI (chS n r k).2), .un, .un]) (fun k => k ≤ 4) (fun k => !decide ((chS n r k).2 = [])) (fun k => 4 - k) PassesOwn.never
    (fun j _ => deqP (tC (cneD hr (dvar 3) (dtup (ds := []) anil) (sh_dI _) (by decide))) (by rw [show PyData.tuple [] = dI [] from rfl, eqv_dI])) (fun j hj ht => ?_) 0 (by omega) rfl) fun ρ' ⟨j, hj, ht, e⟩ => ?_
  · have hne : (chS n r j).2 ≠ [] := fun z => by rw [z] at ht; exact absurd ht (by simp)
    have hj4 : j < 4 := by
      rcases Nat.lt_or_ge j 4 with c | c
      · exact c
      · have : j = 4 := by omega
        subst this
        exact absurd c1 hne
    obtain ⟨d1, d2, d3, d4, _⟩ := c2 j (by simp; omega)
    obtain ⟨d4, d5⟩ := d4 hne
    have enext : chS n r (j + 1) = ((chS n r j).1 ++ [firL r (chS n r j).2], (chS n r j).2.filter fun a => !decide (a ∈ firL r (chS n r j).2)) := by rw [chS]; exact if_neg hne
    refine hs_then (hs_set 4 (dN (dV (dcall Gf hr (acons (dvar 0) (acons (dvar 3) anil)) ⟨n, r, _, _, hn, hrr, d1, d4, rfl, rfl⟩))) sc_chain_in.nd) ?_
    refine hs_then (hs_append 2 (ds := (chS n r j).1.map dI) (d := dI (firL r (chS n r j).2)) (dvar 4) (by rw [List.length_map]; omega)) ?_
    refine hss_post (hs_one (hs_set 3 (dN (dtuple M.tuple_ (dfz (dlc1 5 PyData.int (fun a => !decide (a ∈ firL r (chS n r j).2)) (fun a => .int a) sc_chain_in.nd (iseq (dvar 3)) (fun _ _ => pts_one (tC (cnin (dvar 5) (dvar 4)))) (fun _ _ _ => dvar 5) (by omega))))) sc_chain_in.nd)) fun ρ' e => ?_
    subst e
    refine Up.to (ρ' := [.pu (.tuple (r.map eR)), .pu (dI (fullL n)), .ol ((chS n r (j + 1)).1.map dI), .pu (dI (chS n r (j + 1)).2), .un, .un]) ?_ ⟨j + 1, by omega, by omega, rfl⟩
    rw [enext]
    show Fgt [_, _, Sl.ol ((chS n r j).1.map dI ++ [dI (firL r (chS n r j).2)]), _, _, _] [_, _, Sl.ol (((chS n r j).1 ++ [firL r (chS n r j).2]).map dI), _, _, _]
    rw [List.map_append]
    exact .keep (.keep (.keep (.keep (.drop (.keep .nil)))))
  · subst e
    have hnil : (chS n r j).2 = [] := by simpa using ht
    rw [(c2 j (by simp; omega)).2.2.2.2 hnil]
    exact hs_one (hs_ret (dN (dtupleO M.tuple_ (dvar 2))) rfl)
theorem ok_chain_of (Ga : Cal P w K mg base CX0 k "all_areas" ["rule"] (spS w Sp_all_areas)) (Gc : Cal P w K mg base CX0 k "chain_in" ["rule", "lot"] (spS w Sp_chain_in)) (F : Fun K "chain_of" "chain_of" s_chain_of f fd) : FnOk P w K mg base CX0 (k + 1) f fd ["rule"] (spS w Sp_chain_of) := by
  refine okD F sc_chain_of (fun ss s ⟨n, r, _, _, e, _⟩ => by rw [e]; exact ⟨rfl, no1⟩) (fun cdv A outer sh H E B ss s hr ⟨n, r, hn, hrr, e, es⟩ => ?_)
  subst e es
  exact hs_one (hs_ret (dN (dV (dcall Gc hr (acons (dvar 0) (acons (dV (dcall Ga hr (acons (dvar 0) anil) ⟨n, r, hn, hrr, rfl, rfl⟩)) anil)) ⟨n, r, hn, hrr, rfl, rfl⟩))) rfl)
theorem ok_width (M : Mg mg) (Gc : Cal P w K mg base CX0 k "chain_of" ["rule"] (spS w Sp_chain_of)) (F : Fun K "width" "width" s_width f fd) : FnOk P w K mg base CX0 (k + 1) f fd ["rule"] (spS w Sp_width) := by
  refine okD F sc_width (fun ss s ⟨n, r, _, _, e, _⟩ => by rw [e]; exact ⟨rfl, no1⟩) (fun cdv A outer sh H E B ss s hr ⟨n, r, hn, hrr, e, es⟩ => ?_)
  subst e es
  obtain ⟨w1, w2, w3⟩ := width_ok n hn r hrr
  exact hs_one (hs_ret (dN (dmax rfl M.max_ (ns := (chainL n r).map fun l : Lot => (l.length : Int)) (deqT (dfz (dlc1 (α := Lot) 1 dI (fun _ => true) (fun l => .int (l.length : Int)) (xs := chainL n r) sc_width.nd (iseq (dV (dcall Gc hr (acons (dvar 0) anil) ⟨n, r, hn, hrr, rfl, rfl⟩))) (fun _ _ => pts0) (fun l _ _ => deqT (dlen M.len_ (dvar 1)) (by rw [List.length_map])) (by omega))) (by rw [filt_true, List.map_map]; rfl)) ⟨w1, w2⟩)) rfl)
end
end GY
namespace GY
open PySem PySem.Spec PyProof.Rows L2 PySem.W

/-! ## a call of an expression that gives a def -/
section
variable {X : Cx} {CX : CXT} {k : Nat} {f : Addr} {fd : FuncData} {ps : List Str} {sp : Sp} {E : XK} {e fe : Expr} {es : List Expr} {t : TA} {tf : TE} {pos : Pos}
theorem pe_callE (F : FnOk X.prog X.w X.K X.mg X.base CX k f fd ps sp) (hr : Room k X.A) (hk : PySem.W.keepIn X.K (.ref f) = true) (hb : Binds X.K fd ps []) (hx : Passes CX X E) (hf : PE X fe tf) (ha : PA X (e :: es) t)
    (ht : eval (.Call fe (e :: es) [] pos) X.env = (do callWith pos (← eval fe X.env) [] (backTo pos (starEach (e :: es) X.env)) (backToKw pos (keywordEach [] X.env))) := by rfl)
    (he : starEach (e :: es) X.env = (false, eval e X.env) :: starEach es X.env := by rfl) (hpl : (backTo pos (starEach es X.env)).any (·.1) = false := by rfl) :
    PE X (.Call fe (e :: es) [] pos) (fun σ H Q => tf σ H fun y H1 => y = .ref f ∧ t σ H1 fun vs H2 => sp vs H2 Q E) := by
  refine ⟨fun pins s σ H Q I h => ?_⟩
  refine Call_ (thn (hf.run pins s σ H _ I h) fun u s1 ⟨y, H1, I1, ry, ey, q⟩ => ?_) ht
  subst ey
  obtain rfl : u = Value.ref f := ry
  refine PySem.W.callWith_K (h₀ := X.base) I1.ok.mod.kin hk (thn (ha.run pos pins s1 σ H1 _ I1 q) fun us s2 ⟨vs, H2, I2, r, q2⟩ => ⟨I2.kIn, ?_⟩) he hpl
  exact run_fn F hr hb .nil hx I2 r (by rw [List.append_nil]; exact q2)
end
end GY
namespace GY
open PySem PySem.Spec PyProof.Rows L2 PySem.W

/-! ## _law_heard -/
section
variable {X : Cx} {CX : CXT} {k : Nat} {f : Addr} {fd : FuncData} {ps : List Str} {sp : Sp} {E : L2.St → XK} {e fe : Expr} {es : List Expr} {t : TA} {tf : TE} {pos : Pos}
theorem pe_callES (F : FnOk X.prog X.w X.K X.mg X.base CX k f fd ps sp) (hr : Room k X.A) (hk : PySem.W.keepIn X.K (.ref f) = true) (hb : Binds X.K fd ps []) (hx : ∀ σ, PassesAt CX X σ (E σ)) (hf : PE X fe tf) (ha : PA X (e :: es) t)
    (ht : eval (.Call fe (e :: es) [] pos) X.env = (do callWith pos (← eval fe X.env) [] (backTo pos (starEach (e :: es) X.env)) (backToKw pos (keywordEach [] X.env))) := by rfl)
    (he : starEach (e :: es) X.env = (false, eval e X.env) :: starEach es X.env := by rfl) (hpl : (backTo pos (starEach es X.env)).any (·.1) = false := by rfl) :
    PE X (.Call fe (e :: es) [] pos) (fun σ H Q => tf σ H fun y H1 => y = .ref f ∧ t σ H1 fun vs H2 => sp vs H2 Q (E σ)) := by
  refine ⟨fun pins s σ H Q I h => ?_⟩
  refine Call_ (thn (hf.run pins s σ H _ I h) fun u s1 ⟨y, H1, I1, ry, ey, q⟩ => ?_) ht
  subst ey
  obtain rfl : u = Value.ref f := ry
  refine PySem.W.callWith_K (h₀ := X.base) I1.ok.mod.kin hk (thn (ha.run pos pins s1 σ H1 _ I1 q) fun us s2 ⟨vs, H2, I2, r, q2⟩ => ⟨I2.kIn, ?_⟩) he hpl
  exact run_fnS F hr hb (hx σ) I2 r q2
end
abbrev cannotD : PyData := .list [.str "cannot"]
def tVr (i : Nat) : TE := fun σ H Q => ∃ v, σ[i]? = some (some v) ∧ Q v H
def Sp_law_heard (ss : List Sl) (s : Sl) : Prop := ∃ (i : Int) (d e : PyData), ss = [.pu (.int i), .pu d, .pu e] ∧
  ((i = 0 ∧ (Sp_sure_picks [.pu d, .pu e] s ∨ (Rs_sure_picks [.pu d, .pu e] ∧ s = .pu cannotD))) ∨ (i = 1 ∧ (Sp_bar [.pu d, .pu e] s ∨ (Rs_bar [.pu d, .pu e] ∧ s = .pu cannotD))) ∨ (i = 2 ∧ (Sp_best_ask [.pu d, .pu e] s ∨ (Rs_best_ask [.pu d, .pu e] ∧ s = .pu cannotD))))
section
variable {P : Program} {w : World} {K : PySem.W.Frag} {mg : Str → Option Value} {base : Heap} {f C : Addr} {fd : FuncData} {k : Nat}
theorem ok_law_heard (cn : CN K mg C) (Gs : Cal P w K mg base (L2.CX P w) k "sure_picks" ["m", "told"] (spX w C Sp_sure_picks Rs_sure_picks)) (Gb : Cal P w K mg base (L2.CX P w) k "bar" ["m", "told"] (spX w C Sp_bar Rs_bar)) (Ga : Cal P w K mg base (L2.CX P w) k "best_ask" ["m", "told"] (spX w C Sp_best_ask Rs_best_ask))
    (F : Fun K "_law_heard" "_law_heard" s_law_heard f fd) : FnOk P w K mg base CX0 (k + 1) f fd ["_law_door", "_law_m", "_law_told_here"] (spS w Sp_law_heard) := by
  obtain ⟨f0, fd0, m0, k0, b0, G0⟩ := Gs
  obtain ⟨f1, fd1, m1, k1, b1, G1⟩ := Gb
  obtain ⟨f2, fd2, m2, k2, b2, G2⟩ := Ga
  refine okD F sc_law_heard (fun ss s ⟨i, d, e, h, _⟩ => by rw [h]; exact ⟨rfl, no3⟩) (fun cdv A outer sh H E B ss s hr ⟨i, d, e, h, hs⟩ => ?_)
  subst h
  have go : ∀ {g : Addr} {gd : FuncData} {Spec : List Sl → Sl → Prop} {Rs : List Sl → Prop}, FnOk P w K mg base (L2.CX P w) k g gd ["m", "told"] (spX w C Spec Rs) → PySem.W.keepIn K (.ref g) = true → Binds K gd ["m", "told"] [] → L2.atI [V.ref f0, V.ref f1, V.ref f2] i = some (.ref g) →
      (Spec [.pu d, .pu e] s ∨ (Rs [.pu d, .pu e] ∧ s = .pu cannotD)) →
      PSs (cxOf CX0 P w K mg base n_law_heard "_law_heard" (defScope s_law_heard) f cdv A outer sh H E).nox (defBody s_law_heard) (tH w B (atN n_law_heard [.pu (.int i), .pu d, .pu e]) (fun _ => False) (fun s' _ => s' = s)) := by
    intro g gd Spec Rs G kg bg hat hcase
    let ρ1 : List Sl := [.pu (.int i), .pu d, .pu e, .un]
    let tb : WX → L2.TS := fun W => tRet (fun σ H Q => tOp (rIxL K) (tVr 3) (tVr 0) σ H fun y H1 => y = .ref g ∧ tA w B ρ1 [.pu d, .pu e] σ H1 fun vs H2 => spX w C Spec Rs vs H2 Q (WE W σ))
    let ts : L2.TS := tH w B ρ1 (fun _ => False) (fun s' _ => s' = .pu cannotD)
    refine weakSs (pss_cons (t := tAsg (tLst (tCons (L2.tC (.ref f0)) (tCons (L2.tC (.ref f1)) (tCons (L2.tC (.ref f2)) tNil)))) (gName 3)) (u := fun D σ H => tb (wOnly K (.ref C) (fun _ _ _ => ts) (fun _ _ _ _ => False) D) D σ H) ?a (pss_one ?b)) ?c
    case a =>
      refine ps_set (i := 3) sc_law_heard.nd rfl (Or.inl rfl) ?_
      refine pe_lst ?_
      refine pa_cons (te := L2.tC (.ref f0)) ?_ ?_
      · exact pe_glob (v := V.ref f0) rfl m0 (show RelV (.ref f0) (.ref f0) from rfl)
      refine pa_cons (te := L2.tC (.ref f1)) ?_ ?_
      · exact pe_glob (v := V.ref f1) rfl m1 (show RelV (.ref f1) (.ref f1) from rfl)
      refine pa_cons (te := L2.tC (.ref f2)) ?_ pa_nil
      · exact pe_glob (v := V.ref f2) rfl m2 (show RelV (.ref f2) (.ref f2) from rfl)
    case b =>
      refine ps_try_only (c := .ref C) (Wout := fun _ _ _ _ => False) (ts := fun _ _ _ => ts) (tb := tb) rfl rfl ⟨rfl, by decide, .inl cn.gF⟩ takes0 (fun W pn xe tk _ => ?_) (fun a oe cls d pn _ _ => ?_)
      · refine pss_one (ps_ret ?_)
        refine pe_callES (E := WE W) G hr kg bg (fun σ => passAt tk σ) ?_ ?_
        · exact pe_ix ix_list (pe_var (i := 3) rfl (Or.inl rfl)) (pe_var (i := 0) rfl (Or.inl rfl)) (by intro _ _; rfl)
        · exact acons (dvar 1) (acons (dvar 2) anil)
      · exact hs_one (hs_ret (dN (dlst (ds := [.str "cannot"]) (acons dstr anil))) rfl)
    case c =>
      intro D σ H ⟨F, a, _, r⟩
      refine ⟨by show 3 ≤ sizeLine; decide, fun p hp => ?_⟩
      have a1 : AS w B ρ1 F (σ.set 3 (some (.ref p))) (upd H p (.lst [.ref f0, .ref f1, .ref f2])) := (a.grow (Gr.raw a.fh hp)).set_un (i := 3)
      have hl : σ.length = 4 := a.len
      obtain ⟨v0, h0, ok0⟩ := a1.ok 0 _ rfl (fun z => by cases z)
      cases Rp.int_inv ok0
      show tb _ _ _ _
      refine ⟨.ref p, List.getElem?_set_self (by omega), .int i, h0, p, [.ref f0, .ref f1, .ref f2], i, .ref g, rfl, rfl, SqL.of upd_same, hat, rfl, F, a1, fun vs F2 H2 g2 o2 => ?_⟩
      refine ⟨F2, [.pu d, .pu e], g2.fh, o2, ?_⟩
      rcases hcase with hsp | ⟨hrs, es⟩
      · exact .inl ⟨s, hsp, fun v F3 H3 g3 o3 n3 => r F3 s v ρ1 _ H3 rfl ((a1.grow g2).grow g3) o3 fun c oc ec => (a1.grow g2).gr.h.free (n3 c oc ec)⟩
      · subst es
        refine .inr ⟨hrs, fun H3 hs3 => ⟨true, ?_, fun _ _ _ => ?_, fun z => by cases z⟩⟩
        · unfold PySem.W.exmOne PySem.W.kitCls
          rw [cn.bF]
          show (if ((PySem.W.clsIn K C).isSome && PySem.W.typeIn K (.ref C) == some (.type "type")) = true then PySem.W.subIn K (.ref C) (.ref C) else none) = some true
          have hi : (PySem.W.clsIn K C).isSome = true := cn.iF
          rw [hi, cn.tF, cn.sF]
          rfl
        · have g3 : Gr F2 H2 F2 H3 := ⟨Same.refl _, hs3, fun b o z => hs3 b o (g2.fh b o z), fun _ z _ => z⟩
          exact ⟨F2, (a1.grow g2).grow g3, fun _ _ _ _ _ z => z.elim, fun F' s' v ρ' σ' H' es a' o n => by subst es; exact r F' _ v ρ' σ' H' rfl a' o n⟩
  rcases hs with ⟨rfl, h⟩ | ⟨rfl, h⟩ | ⟨rfl, h⟩
  · exact go G0 k0 b0 rfl h
  · exact go G1 k1 b1 rfl h
  · exact go G2 k2 b2 rfl h
end
end GY
namespace GY
open PySem PySem.Spec PyProof.Rows L2 PySem.W

/-! ## a[i] = v, a a list of the frame's own -/
theorem RpAll.setAt {F : Hp} : ∀ {xs : List V} {ds : List PyData} {u : V} {d : PyData}, RpAll F xs ds → Rp F u d → ∀ j, RpAll F (xs.set j u) (ds.set j d)
  | _, _, _, _, .nil, _, _ => .nil
  | _, _, _, _, .cons _ t, h, 0 => .cons h t
  | _, _, _, _, .cons r t, h, j + 1 => .cons r (RpAll.setAt t h j)
section
variable {X : Cx} {e i : Expr} {pos : Pos} {B : Bs} {ρ : List Sl} {R : Sl → List Sl → Prop} {ds : List PyData} {d : PyData}
theorem hs_put (j : Nat) (q : Nat) {x : Str} {px pos' : Pos} {n : Int} (hi : PE X i (tV X.w B ρ (.pu (.int n)))) (hv : PE X e (tV X.w B ρ (.pu d))) (hq : ixN ds.length n = some q) (hρ : ρ[j]? = some (.ol ds) := by rfl)
    (hN : X.N[j]? = some x := by rfl) (hvis : Vis X.env.scope x := by first | exact Or.inl rfl | exact Or.inr (Or.inl rfl) | exact Or.inr (Or.inr rfl)) (hd : (x == ("__debug__" : Str)) = false := by decide) (hcd : (x == ("__classdict__" : Str)) = false := by decide)
    (hs : swapsWithSole [.Subscript (.Name x px) i pos'] e pos.line X.env = pure false := by rfl) (hw : swappedStores [.Subscript (.Name x px) i pos'] e X.env = pure none := by rfl) (h1 : (assignEach [.Subscript (.Name x px) i pos'] X.env).map (·.2) = [assign (.Subscript (.Name x px) i pos') X.env] := by rfl)
    (ha : ∀ v, assign (.Subscript (.Name x px) i pos') X.env v = (do
      let ov ← holding [v] (eval (.Name x px) X.env)
      let iv ← holding [v, ov] (eval i X.env)
      standAt pos'
      holding [v, ov, iv] (setItem ov iv v)
      release [v, ov, iv] []) := by intro _; rfl) : PS X (.Assign [.Subscript (.Name x px) i pos'] e pos) (tH X.w B ρ (· = ρ.set j (.ol (ds.set q d))) R) :=
  weakS (ps_asg hv (pg_sub (pe_var hN hvis hd hcd) hi set_list ha) hs hw h1) fun D σ H ⟨F, a, k, _⟩ => ⟨F, a, fun v F1 H1 g1 ov => by
    have a1 := a.grow g1
    obtain ⟨u, h1, h2⟩ := a1.ok j _ hρ (fun z => by cases z)
    refine ⟨u, h1, F1, a1, fun y F2 H2 g2 oy => ?_⟩
    have a2 := a1.grow g2
    obtain ⟨p, xs, ev, fp, hp, r⟩ := h2.grow g2
    subst ev
    cases Rp.int_inv oy
    refine ⟨p, xs, n, q, rfl, rfl, hp, by rw [r.length]; exact hq, ?_⟩
    exact k F2 _ _ _ (g1.f.trans g2.f) rfl (a2.mut hρ rfl rfl h1 ⟨p, _, rfl, fp, upd_same, RpAll.setAt r (Rp.mono g2.f _ _ ov) q⟩)⟩
end
end GY
namespace GY
open PySem PySem.Spec PyProof.Rows L2 PySem.W

/-! ## the urn -/
def UOk (n : Nat) (y z : Int) : Prop := (0 ≤ y ∧ y < 2 ^ 62) ∧ 0 ≤ z ∧ z ≤ n
def dropA (H : Hp) (a : Addr) : Hp := fun b => if b = a then none else H b
theorem dropA_same (H : Hp) (a : Addr) : dropA H a a = none := if_pos rfl
theorem dropA_ne {H : Hp} {a b : Addr} (h : b ≠ a) : dropA H a b = H b := if_neg h
theorem same_dropA (H : Hp) (a : Addr) : Same (dropA H a) H := fun b o e => by
  by_cases hb : b = a
  · subst hb; rw [dropA_same] at e; cases e
  · rw [dropA_ne hb] at e; exact e
/-- slot i changes its kind, the heap stays -/
theorem AS.reslot {w : World} {B : Bs} {ρ : List Sl} {F H : Hp} {σ : L2.St} (a : AS w B ρ F σ H) {i : Nat} {s s' : Sl} (hi : ρ[i]? = some s) (ho : s.own = true) {v : V} (hv : σ[i]? = some (some v)) (ok : VOk w F H v s') : AS w B (ρ.set i s') F σ H := by
  have hl : i < ρ.length := (List.getElem?_eq_some_iff.mp hi).1
  have look : ∀ (j : Nat) (t : Sl), (ρ.set i s')[j]? = some t → (j = i ∧ t = s') ∨ (j ≠ i ∧ ρ[j]? = some t) := fun j t e => by
    by_cases hj : i = j
    · subst hj
      rw [List.getElem?_set_self hl] at e
      cases e
      exact .inl ⟨rfl, rfl⟩
    · rw [List.getElem?_set_ne hj] at e
      exact .inr ⟨fun z => hj z.symm, e⟩
  refine ⟨a.gr, by rw [List.length_set]; exact a.len, fun j t e n => ?_, fun j t c e o q => ?_, fun j k t u c hjk ej ek oj ok' q => ?_⟩
  · rcases look j t e with ⟨rfl, rfl⟩ | ⟨_, e'⟩
    · exact ⟨v, hv, ok⟩
    · exact a.ok j t e' n
  · rcases look j t e with ⟨rfl, rfl⟩ | ⟨_, e'⟩
    · exact a.nw _ s c hi ho q
    · exact a.nw j t c e' o q
  · rcases look j t ej with ⟨rfl, rfl⟩ | ⟨_, ej'⟩
    · rcases look k u ek with ⟨rfl, rfl⟩ | ⟨_, ek'⟩
      · exact absurd rfl hjk
      · exact a.dj _ k s u c hjk hi ek' ho ok' q
    · rcases look k u ek with ⟨rfl, rfl⟩ | ⟨_, ek'⟩
      · exact a.dj j _ t s c hjk ej' hi oj ho q
      · exact a.dj j k t u c hjk ej' ek' oj ok' q
section
variable {X : Cx} {B : Bs} {ρ : List Sl} {N : List Sl → Prop} {R : Sl → List Sl → Prop} {sts : List Stmt}
/-- the urn's items, named -/
theorem hs_open (i : Nat) {a : Addr} {n : Nat} (hρ : ρ[i]? = some (.ur a n)) (h : ∀ x y z, UOk n y z → PSs X sts (tH X.w B (ρ.set i (.uv a x y z)) N R)) : PSs X sts (tH X.w B ρ N R) :=
  weakSs (anySs (p := fun t : Int × Int × Int => UOk n t.2.1 t.2.2) (t := fun t => tH X.w B (ρ.set i (.uv a t.1 t.2.1 t.2.2)) N R) fun t ht => h t.1 t.2.1 t.2.2 ht) fun D σ H ⟨F, as, k, r⟩ => by
    obtain ⟨v, hv, x, y, z, ev, hn, hH, hy, hz⟩ := as.ok i _ hρ (fun z => by cases z)
    exact ⟨(x, y, z), ⟨hy, hz⟩, F, as.reslot hρ rfl hv ⟨ev, hn, hH⟩, k, r⟩
end
end GY
namespace GY
open PySem PySem.Spec PyProof.Rows L2 PySem.W
theorem op_ixU {K : PySem.W.Frag} {w : World} {a : Addr} {x y z i m : Int} (h : L2.atI [V.int x, V.int y, V.int z] i = some (.int m)) : DOp w (rIx K) (.uv a x y z) (.pu (.int i)) (.pu (.int m)) := fun u v F H Q f ou ov k => by
  obtain ⟨eu, hn, hH⟩ := ou
  exact .inl ⟨a, [.int x, .int y, .int z], i, .int m, eu, Rp.int_inv ov, SqL.of hH, h, k _ F H (Gr.refl f) (Rp.int m) fun _ z => by cases z⟩
section
variable {X : Cx} {e i o : Expr} {pos : Pos} {B : Bs} {ρ : List Sl} {R : Sl → List Sl → Prop} {a : Addr} {x y z m n : Int}
theorem dixu (ho : PE X o (tV X.w B ρ (.uv a x y z))) (hi : PE X i (tV X.w B ρ (.pu (.int n)))) (h : L2.atI [V.int x, V.int y, V.int z] n = some (.int m)) (hs : PlainIx i := by intro _ _; rfl) : PE X (.Subscript o i pos) (tV X.w B ρ (.pu (.int m))) :=
  dV (dix ix_seq ho hi (op_ixU h) hs)
/-- urn[n] = e -/
theorem hs_putU (j : Nat) {x' y' z' : Int} {q : Nat} {nm : Str} {px pos' : Pos} (hi : PE X i (tV X.w B ρ (.pu (.int n)))) (hv : PE X e (tV X.w B ρ (.pu (.int m)))) (hq : ixN 3 n = some q) (hset : [V.int x, V.int y, V.int z].set q (.int m) = [V.int x', V.int y', V.int z']) (hρ : ρ[j]? = some (.uv a x y z) := by rfl)
    (hN : X.N[j]? = some nm := by rfl) (hvis : Vis X.env.scope nm := by first | exact Or.inl rfl | exact Or.inr (Or.inl rfl) | exact Or.inr (Or.inr rfl)) (hd : (nm == ("__debug__" : Str)) = false := by decide) (hcd : (nm == ("__classdict__" : Str)) = false := by decide)
    (hs : swapsWithSole [.Subscript (.Name nm px) i pos'] e pos.line X.env = pure false := by rfl) (hw : swappedStores [.Subscript (.Name nm px) i pos'] e X.env = pure none := by rfl) (h1 : (assignEach [.Subscript (.Name nm px) i pos'] X.env).map (·.2) = [assign (.Subscript (.Name nm px) i pos') X.env] := by rfl)
    (ha : ∀ v, assign (.Subscript (.Name nm px) i pos') X.env v = (do
      let ov ← holding [v] (eval (.Name nm px) X.env)
      let iv ← holding [v, ov] (eval i X.env)
      standAt pos'
      holding [v, ov, iv] (setItem ov iv v)
      release [v, ov, iv] []) := by intro _; rfl) : PS X (.Assign [.Subscript (.Name nm px) i pos'] e pos) (tH X.w B ρ (· = ρ.set j (.uv a x' y' z')) R) :=
  weakS (ps_asg hv (pg_sub (pe_var hN hvis hd hcd) hi set_list ha) hs hw h1) fun D σ H ⟨F, as, k, _⟩ => ⟨F, as, fun v F1 H1 g1 ov => by
    have a1 := as.grow g1
    obtain ⟨u, h1, h2⟩ := a1.ok j _ hρ (fun z => by cases z)
    refine ⟨u, h1, F1, a1, fun w F2 H2 g2 ow => ?_⟩
    have a2 := a1.grow g2
    obtain ⟨eu, fp, hp⟩ := h2.grow g2
    subst eu
    cases Rp.int_inv ow
    cases Rp.int_inv ov
    refine ⟨a, [.int x, .int y, .int z], n, q, rfl, rfl, hp, hq, ?_⟩
    rw [hset]
    exact k F2 _ _ _ (g1.f.trans g2.f) rfl (a2.mut hρ rfl rfl h1 ⟨rfl, fp, upd_same⟩)⟩
end
end GY
namespace GY
open PySem PySem.Spec PyProof.Rows L2 PySem.W
/-- a def that draws from the urn, its first argument, at most c times -/
def spU (w : World) (c : Nat) (Pre : List Sl → Prop) (Post : List Sl → PyData → Prop) : Sp := fun vs H Q _ => ∃ F a n ss, Same F H ∧ VsOk w F H vs (.ur a n :: ss) ∧ n + c ≤ 2 ^ 62 ∧ Pre ss ∧
  ∀ d v F' H', Post ss d → Gr F (dropA H a) F' H' → VOk w F' H' (.ref a) (.ur a (n + c)) → Rp F' v d → Q v H'
theorem as_startU {w : World} {N : List Str} {F H : Hp} {vs : List V} {ss : List Sl} {a : Addr} {n : Nat} (e : Same F H) (r : VsOk w F H vs (.ur a n :: ss)) (no : NoOwn ss) : AS w (F, dropA H a) (atN N (.ur a n :: ss)) F (L2.start N vs) H := by
  have hl := r.length
  have fa : F a = none := by
    cases r with
    | cons o _ => obtain ⟨x, y, z, _, m, _⟩ := o; exact m
  have own0 : ∀ (i : Nat) (s : Sl), (atN N (.ur a n :: ss))[i]? = some s → s.own = true → i = 0 ∧ s = .ur a n := fun i s h o => by
    rcases at_look h with rfl | h
    · cases o
    · cases i with
      | zero => cases h; exact ⟨rfl, rfl⟩
      | succ i =>
        rw [no s (List.mem_of_getElem? (show ss[i]? = some s from h))] at o
        cases o
  have val0 : ∀ b, (L2.start N vs)[0]? = some (some (.ref b)) → b = a := fun b h => by
    obtain ⟨v, h1, _, h2⟩ := at_start (N := N) (i := 0) (s := .ur a n) r rfl
    rw [h1] at h
    obtain ⟨x, y, z, ev, _⟩ := h2
    rw [ev] at h
    cases h
    rfl
  refine ⟨⟨Same.refl _, same_dropA H a, e, fun _ q _ => q⟩, ?_, fun i s h nn => ?_, fun i s b h o hv => ?_, fun i j s t b hij h1 h2 o1 o2 => ?_⟩
  · unfold L2.start atN
    simp [hl]
    omega
  · rcases at_look h with z | h
    · exact absurd z nn
    · obtain ⟨v, h1, _, h2⟩ := at_start (N := N) r h
      exact ⟨v, h1, h2⟩
  · obtain ⟨rfl, rfl⟩ := own0 i s h o
    rw [val0 b hv]
    exact dropA_same H a
  · obtain ⟨rfl, _⟩ := own0 i s h1 o1
    obtain ⟨rfl, _⟩ := own0 j t h2 o2
    exact absurd rfl hij
section
variable {P : Program} {w : World} {K : PySem.W.Frag} {mg : Str → Option Value} {base : Heap}
theorem okU {x qual : Str} {st : Stmt} {f : Addr} {fd : FuncData} {N ps : List Str} {k c : Nat} {Pre : List Sl → Prop} {Post : List Sl → PyData → Prop} (F : Fun K x qual st f fd) (S : FnScope N ps (defScope st)) (len : ∀ ss, Pre ss → ss.length + 1 = ps.length ∧ NoOwn ss)
    (body : ∀ (cdv : Value) (A : Around) (outer : List Env) (sh : Shared) (H : Hp) (E : XK) (B : Bs) (ss : List Sl) (a : Addr) (n : Nat), Room k (A.deeper (envOfC qual (defScope st) sh.heap.objs.size f cdv)) → n + c ≤ 2 ^ 62 → Pre ss →
      PSs (cxOf CX0 P w K mg base N qual (defScope st) f cdv A outer sh H E).nox (defBody st) (tH w B (atN N (.ur a n :: ss)) (fun _ => False) (fun s' ρ' => ∃ d, s' = .pu d ∧ Post ss d ∧ ((∃ n', n' ≤ n + c ∧ ρ'[0]? = some (.ur a n')) ∨ ∃ x y z, ρ'[0]? = some (.uv a x y z) ∧ UOk (n + c) y z)))) :
    FnOk P w K mg base CX0 (k + 1) f fd ps (spU w c Pre Post) := by
  refine F.ok S (fun vs H Q E h => ?_) (fun cdv A outer sh H vs Q E hr h => ?_)
  · obtain ⟨F0, a, n, ss, e, r, _, hp, _⟩ := h
    rw [r.length]
    exact (len ss hp).1
  · obtain ⟨F0, a, n, ss, e, r, hn, hp, q⟩ := h
    refine ⟨_, body cdv A outer sh H E (F0, dropA H a) ss a n hr hn hp, F0, as_startU e r (len ss hp).2, fun _ _ _ _ _ z => z.elim, fun F' s' v ρ' σ' H' es as o _ => ?_⟩
    obtain ⟨d, rfl, hpost, hu⟩ := es
    refine q d v F' H' hpost as.gr ?_ o
    rcases hu with ⟨n', hn', hu⟩ | ⟨x, y, z, hu, hok⟩
    · obtain ⟨v0, _, ok⟩ := as.ok 0 _ hu (fun z => by cases z)
      obtain ⟨x, y, z, ev, r1, r2, r3, r4, r5⟩ := ok
      exact ⟨x, y, z, rfl, r1, r2, r3, r4, by omega⟩
    · obtain ⟨v0, _, ok⟩ := as.ok 0 _ hu (fun z => by cases z)
      obtain ⟨ev, hm, hH⟩ := ok
      exact ⟨x, y, z, rfl, hm, hH, hok⟩
end
end GY
namespace GY
open PySem PySem.Spec PyProof.Rows L2 PySem.W

/-! ## growth but for the urn at a -/
section
variable {F H F1 H1 F2 H2 : Hp} {a : Addr} {w : World}
theorem Gr.dropH (g : Gr F H F1 H1) : Gr F (dropA H a) F1 H1 :=
  ⟨g.f, fun b o e => g.h b o (same_dropA H a b o e), g.fh, fun b e n => by
    obtain ⟨o, q, t⟩ := n
    exact g.nw b e ⟨o, same_dropA H a b o q, t⟩⟩
theorem Gr.transU (g : Gr F (dropA H a) F1 H1) (g2 : Gr F1 (dropA H1 a) F2 H2) : Gr F (dropA H a) F2 H2 := by
  have st : ∀ b o, dropA H a b = some o → dropA H1 a b = some o := fun b o e => by
    have hb : b ≠ a := fun z => by subst z; rw [dropA_same] at e; cases e
    rw [dropA_ne hb]
    exact g.h b o e
  exact ⟨g.f.trans g2.f, fun b o e => g2.h b o (st b o e), g2.fh, fun b e n => by
    obtain ⟨o, q, t⟩ := n
    exact g2.nw b (g.nw b e ⟨o, q, t⟩) ⟨o, st b o q, t⟩⟩
theorem VOk.dropU {s : Sl} {v : V} (h : VOk w F H v s) (hc : ∀ c, s.own = true → v = .ref c → c ≠ a) : VOk w F (dropA H a) v s := by
  cases s with
  | un => trivial
  | pu d => exact h
  | ol ds => obtain ⟨c, xs, ec, fc, hh, r⟩ := h; exact ⟨c, xs, ec, fc, by rw [dropA_ne (hc c rfl ec)]; exact hh, r⟩
  | od kvs => obtain ⟨c, xs, ec, fc, hh, r⟩ := h; exact ⟨c, xs, ec, fc, by rw [dropA_ne (hc c rfl ec)]; exact hh, r⟩
  | fd kvs => exact h
  | kt k => exact h
  | ad u => exact h
  | ss S n => exact h
  | ur c n => obtain ⟨x, y, z, ec, fc, hh, r⟩ := h; exact ⟨x, y, z, ec, fc, by rw [dropA_ne (hc c rfl ec)]; exact hh, r⟩
  | uv c x y z => obtain ⟨ec, fc, hh⟩ := h; exact ⟨ec, fc, by rw [dropA_ne (hc c rfl ec)]; exact hh⟩
/-- the urn's slot behind draws -/
theorem AS.growU {B : Bs} {ρ : List Sl} {σ : L2.St} (as : AS w B ρ F σ H) {j : Nat} {n m : Nat} (hj : ρ[j]? = some (.ur a n)) (g : Gr F (dropA H a) F1 H1) (ok : VOk w F1 H1 (.ref a) (.ur a m)) : AS w B (ρ.set j (.ur a m)) F1 σ H1 := by
  obtain ⟨v, hv, x, y, z, ev, fa, ha, _⟩ := as.ok j _ hj (fun z => by cases z)
  subst ev
  have hb : B.2 a = none := as.nw j _ a hj rfl hv
  have st : ∀ b o, B.2 b = some o → dropA H a b = some o := fun b o e => by
    have hb' : b ≠ a := fun z => by subst z; rw [hb] at e; cases e
    rw [dropA_ne hb']
    exact as.gr.h b o e
  have hl : j < ρ.length := (List.getElem?_eq_some_iff.mp hj).1
  have look : ∀ (i : Nat) (t : Sl), (ρ.set j (.ur a m))[i]? = some t → (i = j ∧ t = .ur a m) ∨ (i ≠ j ∧ ρ[i]? = some t) := fun i t e => by
    by_cases hi : j = i
    · subst hi
      rw [List.getElem?_set_self hl] at e
      cases e
      exact .inl ⟨rfl, rfl⟩
    · rw [List.getElem?_set_ne hi] at e
      exact .inr ⟨fun z => hi z.symm, e⟩
  refine ⟨⟨as.gr.f.trans g.f, fun b o e => g.h b o (st b o e), g.fh, fun b e n => ?_⟩, by rw [List.length_set]; exact as.len, fun i t e n => ?_, fun i t c e o q => ?_, fun i k t u c hik ei ek oi ok' q => ?_⟩
  · obtain ⟨o, q, t⟩ := n
    exact g.nw b (as.gr.nw b e ⟨o, q, t⟩) ⟨o, st b o q, t⟩
  · rcases look i t e with ⟨rfl, rfl⟩ | ⟨hi, e'⟩
    · exact ⟨_, hv, ok⟩
    · obtain ⟨v', h1, h2⟩ := as.ok i t e' n
      refine ⟨v', h1, VOk.grow g (h2.dropU fun c oc ec z => ?_)⟩
      subst z ec
      exact as.dj i j t _ c hi e' hj oc rfl h1 hv
  · rcases look i t e with ⟨rfl, rfl⟩ | ⟨_, e'⟩
    · rw [hv] at q; cases q; exact hb
    · exact as.nw i t c e' o q
  · rcases look i t ei with ⟨rfl, rfl⟩ | ⟨_, ei'⟩
    · rcases look k u ek with ⟨rfl, rfl⟩ | ⟨_, ek'⟩
      · exact absurd rfl hik
      · exact as.dj _ k _ u c hik hj ek' rfl ok' q
    · rcases look k u ek with ⟨rfl, rfl⟩ | ⟨_, ek'⟩
      · exact as.dj i _ t _ c hik ei' hj oi rfl q
      · exact as.dj i k t u c hik ei' ek' oi ok' q
end
/-- a reading that draws from the urn at a: of a datum of P; the urn's bound behind it is m -/
def tU (w : World) (B : Bs) (ρ : List Sl) (a : Addr) (m : Nat) (P : PyData → Prop) : TE := fun σ H Q => ∃ F, AS w B ρ F σ H ∧
  ∀ d v F' H', P d → Gr F (dropA H a) F' H' → VOk w F' H' (.ref a) (.ur a m) → Rp F' v d → Q v H'
def tTU (w : World) (B : Bs) (ρ : List Sl) (a : Addr) (m : Nat) : TT := fun σ H Q => ∃ F, AS w B ρ F σ H ∧
  ∀ b F' H', Gr F (dropA H a) F' H' → VOk w F' H' (.ref a) (.ur a m) → Q b H'
section
variable {X : Cx} {e b o : Expr} {pos : Pos} {B : Bs} {ρ : List Sl} {R : Sl → List Sl → Prop} {N : List Sl → Prop} {a : Addr} {n m j : Nat} {P P' : PyData → Prop}
theorem uwk (h : PE X e (tU X.w B ρ a m P)) (i : ∀ d, P d → P' d) : PE X e (tU X.w B ρ a m P') := weakE h fun σ H Q ⟨F, as, k⟩ => ⟨F, as, fun d v F' H' p => k d v F' H' (i d p)⟩
theorem ucall {k c : Nat} {x : Str} {p : Pos} {ps : List Str} {es : List Expr} {ss : List Sl} {Pre : List Sl → Prop} {Post : List Sl → PyData → Prop} (G : Cal X.prog X.w X.K X.mg X.base CX0 k x ps (spU X.w c Pre Post)) (hr : Room k X.A)
    (ha : PA X (e :: es) (tA X.w B ρ (.ur a n :: ss))) (hn : n + c ≤ 2 ^ 62) (sp : Pre ss) (hg : Gl X x := by rfl) (hdb : (x == ("__debug__" : Str)) = false := by decide) (he : starEach (e :: es) X.env = (false, eval e X.env) :: starEach es X.env := by rfl)
    (hpl : (backTo pos (starEach es X.env)).any (·.1) = false := by rfl) : PE X (.Call (.Name x p) (e :: es) [] pos) (tU X.w B ρ a (n + c) (Post ss)) := by
  obtain ⟨f, fd, hm, hk, hb, G⟩ := G
  exact weakE (pe_call G hr hg hm hk hb .nil pass0 ha hdb he hpl) fun σ H Q ⟨F, as, q⟩ => ⟨F, as, fun vs F1 H1 g o => by
    show spU X.w c Pre Post (vs ++ []) H1 Q E0
    rw [List.append_nil]
    exact ⟨F1, a, n, ss, g.fh, o, hn, sp, fun d v F2 H2 hd g2 ok od => q d v F2 H2 hd ((Gr.dropH g).transU g2) ok od⟩⟩
/-- x = e -/
theorem hs_setU (i j : Nat) {x : Str} {pos' : Pos} (hj : ρ[j]? = some (.ur a n)) (he : PE X e (tU X.w B ρ a m P)) (hN : X.N.Nodup) (hi : X.N[i]? = some x := by rfl) (hx : Loc X.env.scope x := by first | exact Or.inl rfl | exact Or.inr rfl)
    (hs : swapsWith e (some (.Name x pos')) pos.line X.env = pure false := by rfl) (hf : X.fn x = true ∨ X.env.scope.names.lookup x = some .local := by first | exact .inl rfl | exact .inr rfl) :
    PS X (.Assign [.Name x pos'] e pos) (tH X.w B ρ (fun r => ∃ d, P d ∧ r = (ρ.set j (.ur a m)).set i (.pu d)) R) :=
  weakS (ps_set hN hi hx he hs hf) fun D σ H ⟨F, as, k, _⟩ => ⟨F, as, fun d v F1 H1 hd g ok o => k F1 _ _ H1 g.f ⟨d, hd, rfl⟩ ((as.growU hj g ok).set_pu o)⟩
/-- return e -/
theorem hs_retU (j : Nat) (hj : ρ[j]? = some (.ur a n)) (he : PE X e (tU X.w B ρ a m P)) (hR : ∀ d, P d → R (.pu d) (ρ.set j (.ur a m))) : PS X (.Return (some e) pos) (tH X.w B ρ N R) :=
  weakS (ps_ret he) fun D σ H ⟨F, as, _, r⟩ => ⟨F, as, fun d v F1 H1 hd g ok o => r F1 (.pu d) v _ σ H1 (hR d hd) (as.growU hj g ok) o fun c oc _ => by cases oc⟩
/-- if, the outcome open -/
theorem hs_ifU (j : Nat) {c : Expr} {t u : List Stmt} (hj : ρ[j]? = some (.ur a n)) (hc : PT X c (tTU X.w B ρ a m)) (h1 : PSs X t (tH X.w B (ρ.set j (.ur a m)) N R)) (h2 : PSs X u (tH X.w B (ρ.set j (.ur a m)) N R)) : PS X (.If c t u pos) (tH X.w B ρ N R) :=
  weakS (ps_if hc h1 h2) fun D σ H ⟨F, as, k, r⟩ => ⟨F, as, fun b F1 H1 g ok => by
    have q : tH X.w B (ρ.set j (.ur a m)) N R D σ H1 := ⟨F1, as.growU hj g ok, fun F2 ρ2 σ2 H2 e n a2 => k F2 ρ2 σ2 H2 (g.f.trans e) n a2, r⟩
    cases b <;> exact q⟩
/-- e == 0 -/
theorem utest0 {kk : Nat} {p' : Pos} (hP : ∀ d, P d → ∃ i, d = .int i) (j : Nat) (hj : ρ[j]? = some (.ur a n)) (he : PE X e (tU X.w B ρ a m P)) : PT X (.Compare e [.Eq] [.Constant (.int 0) kk p'] pos) (tTU X.w B ρ a m) :=
  weakT (pt_cmpR op_eq he (dint (B := B) (ρ := ρ.set j (.ur a m))) (nomark _)) fun σ H Q ⟨F, as, k⟩ => ⟨F, as, fun d v F1 H1 hd g ok o => ⟨F1, as.growU hj g ok, fun y F2 H2 g2 o2 => by
    obtain ⟨i, rfl⟩ := hP d hd
    refine op_eqI (w := X.w) v y F2 H2 _ g2.fh (Rp.mono g2.f _ _ o) o2 fun u F3 H3 g3 o3 _ => ⟨_, Rp.bool_inv o3, k _ F3 H3 (g.trans (g2.trans g3)) (ok.grow (g2.trans g3))⟩⟩⟩
theorem ueq0 {kk : Nat} {p' : Pos} (hP : ∀ d, P d → ∃ i, d = .int i) (j : Nat) (hj : ρ[j]? = some (.ur a n)) (he : PE X e (tU X.w B ρ a m P)) : PE X (.Compare e [.Eq] [.Constant (.int 0) kk p'] pos) (tU X.w B ρ a m fun d => ∃ b, d = .bool b) :=
  weakE (pe_cmpR op_eq he (dint (B := B) (ρ := ρ.set j (.ur a m))) (nomark _)) fun σ H Q ⟨F, as, k⟩ => ⟨F, as, fun d v F1 H1 hd g ok o => ⟨F1, as.growU hj g ok, fun y F2 H2 g2 o2 => by
    obtain ⟨i, rfl⟩ := hP d hd
    refine op_eqI (w := X.w) v y F2 H2 _ g2.fh (Rp.mono g2.f _ _ o) o2 fun u F3 H3 g3 o3 _ => k _ u F3 H3 ⟨_, rfl⟩ (g.trans (g2.trans g3)) (ok.grow (g2.trans g3)) o3⟩⟩
/-- d + e -/
theorem uadd {i : Int} {x : Expr} (hP : ∀ d, P d → ∃ q, d = .int q) (hx : PE X x (tV X.w B ρ (.pu (.int i)))) (he : PE X e (tU X.w B ρ a m P)) : PE X (.BinOp x .Add e pos) (tU X.w B ρ a m fun d => ∃ q, P (.int q) ∧ d = .int (i + q)) :=
  weakE (pe_op op_add hx he) fun σ H Q ⟨F, as, k⟩ => ⟨F, as, fun v F1 H1 g1 o1 => ⟨F1, as.grow g1, fun d y F2 H2 hd g ok o => by
    obtain ⟨q, rfl⟩ := hP d hd
    exact ⟨i, q, Rp.int_inv o1, Rp.int_inv o, k _ _ F2 H2 ⟨q, hd, rfl⟩ ((Gr.dropH g1).transU g) ok (.int _)⟩⟩⟩
/-- xs[e] -/
theorem uix {ds : List PyData} {x : Expr} (hP : ∀ d, P d → ∃ q e, d = .int q ∧ L2.atI ds q = some e ∧ P' e) (hx : PE X x (tV X.w B ρ (.pu (.list ds)))) (he : PE X e (tU X.w B ρ a m P)) (hs : PlainIx e := by intro _ _; rfl) : PE X (.Subscript x e pos) (tU X.w B ρ a m P') :=
  weakE (pe_ix ix_seq hx he hs) fun σ H Q ⟨F, as, k⟩ => ⟨F, as, fun v F1 H1 g1 o1 => ⟨F1, as.grow g1, fun d y F2 H2 hd g ok o => by
    obtain ⟨q, e', rfl, hat, hp⟩ := hP d hd
    refine op_ix (K := X.K) (w := X.w) (.inl rfl) hat v y F2 H2 Q g.fh (Rp.mono g.f _ _ o1) o fun u F3 H3 g3 o3 _ => k e' u F3 H3 hp (((Gr.dropH g1).transU g).trans g3) (ok.grow g3) o3⟩⟩
/-- (d, e) -/
theorem utup2 {x : Expr} {x1} {d1 : PyData} (hx : PE X x (tV X.w B ρ (.pu d1))) (he : PE X e (tU X.w B ρ a m P)) (h1 : starEach [x, e] X.env = (false, eval x X.env) :: starEach [e] X.env := by rfl) (h2 : starEach [e] X.env = (false, eval e X.env) :: starEach [] X.env := by rfl) :
    PE X (.Tuple [x, e] x1 pos) (tU X.w B ρ a m fun d => ∃ d2, P d2 ∧ d = .tuple [d1, d2]) :=
  weakE (pe_tup (pa_cons hx (pa_cons he pa_nil h2) h1)) fun σ H Q ⟨F, as, k⟩ => ⟨F, as, fun v F1 H1 g1 o1 => ⟨F1, as.grow g1, fun d y F2 H2 hd g ok o => by
    refine ⟨by show 2 ≤ sizeLine; decide, fun p hp => ?_⟩
    have gn : Gr F2 H2 (upd F2 p (.tup [v, y])) (upd H2 p (.tup [v, y])) := Gr.new g.fh hp
    exact k _ _ _ _ ⟨d, hd, rfl⟩ (((Gr.dropH g1).transU g).trans gn) (ok.grow gn) (Rp.tup upd_same (RpAll.mono (same_upd (g.fh.free hp)) _ _ (.cons (Rp.mono g.f _ _ o1) (.cons o .nil))))⟩⟩
/-- x.append(e) -/
theorem hs_appendU (i j : Nat) {x : Str} {px apos cpos : Pos} {ds : List PyData} (hj : ρ[j]? = some (.ur a n)) (he : PE X e (tU X.w B ρ a m P)) (hl : ds.length < 1000) (hρ : ρ[i]? = some (.ol ds) := by rfl) (hij : j ≠ i := by decide)
    (hN : X.N[i]? = some x := by rfl) (hv : Vis X.env.scope x := by first | exact Or.inl rfl | exact Or.inr (Or.inl rfl) | exact Or.inr (Or.inr rfl)) (hd : (x == ("__debug__" : Str)) = false := by decide) (hcd : (x == ("__classdict__" : Str)) = false := by decide)
    (hbase : attributeBase (.Name x px) "append" X.env (eval (.Name x px) X.env) = eval (.Name x px) X.env := by rfl)
    (hfew : ((backTo cpos (starEach (e :: []) X.env)).all (fun x => !x.1) && (backToKw cpos (keywordEach [] X.env)).all (fun x => x.1.isSome) && decide ((e :: []).length + ([] : List Keyword).length + (if ([] : List Keyword).isEmpty then 0 else 1) < 30)) = true := by rfl)
    (hline : (apos.endLine == cpos.line) = true := by rfl) (hst : starEach (e :: []) X.env = (false, eval e X.env) :: starEach [] X.env := by rfl) (hplain : (backTo cpos (starEach [] X.env)).any (·.1) = false := by rfl)
    (hsw : swapsWith (.Call (.Attribute (.Name x px) "append" apos) [e] [] cpos) none pos.line X.env = pure false := by rfl) :
    PS X (.Expr (.Call (.Attribute (.Name x px) "append" apos) [e] [] cpos) pos) (tH X.w B ρ (fun r => ∃ d, P d ∧ r = (ρ.set j (.ur a m)).set i (.ol (ds ++ [d]))) R) :=
  weakS (ps_expr (pe_bm PySem.F.plainAttrs_list PySem.F.slot_list_append PySem.F.type_list_append mt_append (pe_var hN hv hd hcd) (pa_cons he pa_nil hst) hbase hfew hline hst hplain) hsw) fun D σ H ⟨F, as, k, _⟩ => by
    obtain ⟨v, h1, h2⟩ := as.ok i _ hρ (fun z => by cases z)
    obtain ⟨p, xs, ev, fp, hp, r⟩ := id h2
    subst ev
    refine ⟨_, h1, .inl ⟨rfl, xs, SqL.of hp⟩, F, as, fun d u F1 H1 hd g ok o => ?_⟩
    have a1 := as.growU hj g ok
    have hρ1 : (ρ.set j (.ur a m))[i]? = some (.ol ds) := by rw [List.getElem?_set_ne hij]; exact hρ
    obtain ⟨v', h1', h2'⟩ := a1.ok i _ hρ1 (fun z => by cases z)
    rw [h1] at h1'
    cases h1'
    obtain ⟨p', xs', ev', fp', hp', r'⟩ := id h2'
    cases ev'
    refine ⟨p, xs', u, rfl, rfl, hp', ?_, ?_⟩
    · have := r'.length
      exact small1000 (by omega)
    · refine k F1 _ _ _ g.f ⟨d, hd, rfl⟩ (a1.mut hρ1 rfl rfl h1 ⟨p, xs' ++ [u], rfl, fp', upd_same, r'.snoc o⟩)
/-- x, y = e1, e; e draws -/
theorem hs_parU (i l j : Nat) {s1 : Sl} {x y : Str} {c : Expr} {px py pt : Pos} {kt k2 pt2} (hj : ρ[j]? = some (.ur a n)) (hc1 : PE X c (tN X.w B ρ s1)) (he : PE X e (tU X.w B ρ a m P)) (hc : X.calm = true) (hN : X.N.Nodup) (hil : i ≠ l := by decide) (hi : X.N[i]? = some x := by rfl) (hl : X.N[l]? = some y := by rfl)
    (hx : X.env.scope.names.lookup x = some .local := by rfl) (hy : X.env.scope.names.lookup y = some .local := by rfl)
    (hw : swappedStores [.Tuple [.Name x px, .Name y py] kt pt] (.Tuple [c, e] k2 pt2) X.env = pure (some [x, y]) := by rfl)
    (hs : swapsWithSole [.Tuple [.Name x px, .Name y py] kt pt] (.Tuple [c, e] k2 pt2) pos.line X.env = pure false := by rfl)
    (h1 : starEach [c, e] X.env = (false, eval c X.env) :: starEach [e] X.env := by rfl) (h2 : starEach [e] X.env = (false, eval e X.env) :: starEach [] X.env := by rfl) :
    PS X (.Assign [.Tuple [.Name x px, .Name y py] kt pt] (.Tuple [c, e] k2 pt2) pos) (tH X.w B ρ (fun r => ∃ d, P d ∧ r = ((ρ.set j (.ur a m)).set i s1).set l (.pu d)) R) :=
  weakS (ps_par hc hN hi hl hil hx hy (pa_cons hc1 (pa_cons he pa_nil h2) h1) hw hs) fun D σ H ⟨F, as, k, _⟩ => ⟨F, as, fun v F1 H1 g1 o1 n1 => ⟨F1, as.grow g1, fun d u F2 H2 hd g ok o => ⟨v, u, rfl, by
    have a2 := (as.grow g1).growU hj g ok
    obtain ⟨va, hva, _, _, _, eva, _, hHa, _⟩ := as.ok j _ hj (fun z => by cases z)
    have hne : ∀ c, s1.own = true → v = .ref c → c ≠ a := fun c oc ec z => by
      subst z
      rw [n1 c oc ec] at hHa
      cases hHa
    refine k F2 _ _ H2 (g1.f.trans g.f) ⟨d, hd, rfl⟩ (AS.set_pu (AS.set a2 (VOk.grow g (o1.dropU hne)) (fun b ob eb => as.gr.h.free (n1 b ob eb)) fun q t b hq eq o1' ot eb => ?_) o)
    intro hσ
    by_cases hqj : j = q
    · subst hqj
      rw [hva, eva] at hσ
      cases hσ
      exact hne _ o1' eb rfl
    · rw [List.getElem?_set_ne hqj] at eq
      obtain ⟨v', h1', h2'⟩ := as.ok q t eq (fun z => by rw [z] at ot; cases ot)
      obtain ⟨c', ec', _, hc'⟩ := h2'.own_ref ot
      rw [h1', ec'] at hσ
      cases hσ
      exact hc' (n1 _ o1' eb)⟩⟩⟩
/-- x, y, z = e, e2, e3; e draws -/
theorem hs_par3U (i l q j : Nat) {s2 s3 : Sl} {x y z : Str} {c2 c3 : Expr} {px py pz pt : Pos} {kt k2 pt2} (hj : ρ[j]? = some (.ur a n)) (he : PE X e (tU X.w B ρ a m P)) (hc2 : PE X c2 (tN X.w B (ρ.set j (.ur a m)) s2)) (hc3 : PE X c3 (tN X.w B (ρ.set j (.ur a m)) s3)) (hc : X.calm = true) (hN : X.N.Nodup)
    (hil : i ≠ l := by decide) (hiq : i ≠ q := by decide) (hlq : l ≠ q := by decide) (hi : X.N[i]? = some x := by rfl) (hl : X.N[l]? = some y := by rfl) (hq : X.N[q]? = some z := by rfl)
    (hx : X.env.scope.names.lookup x = some .local := by rfl) (hy : X.env.scope.names.lookup y = some .local := by rfl) (hz : X.env.scope.names.lookup z = some .local := by rfl)
    (hw : swappedStores [.Tuple [.Name x px, .Name y py, .Name z pz] kt pt] (.Tuple [e, c2, c3] k2 pt2) X.env = pure (some [x, y, z]) := by rfl)
    (hs : swapsWithSole [.Tuple [.Name x px, .Name y py, .Name z pz] kt pt] (.Tuple [e, c2, c3] k2 pt2) pos.line X.env = pure false := by rfl)
    (h1 : starEach [e, c2, c3] X.env = (false, eval e X.env) :: starEach [c2, c3] X.env := by rfl) (h2 : starEach [c2, c3] X.env = (false, eval c2 X.env) :: starEach [c3] X.env := by rfl) (h3 : starEach [c3] X.env = (false, eval c3 X.env) :: starEach [] X.env := by rfl) :
    PS X (.Assign [.Tuple [.Name x px, .Name y py, .Name z pz] kt pt] (.Tuple [e, c2, c3] k2 pt2) pos) (tH X.w B ρ (fun r => ∃ d, P d ∧ r = (((ρ.set j (.ur a m)).set i (.pu d)).set l s2).set q s3) R) :=
  weakS (ps_par3 hc hN hi hl hq hil hiq hlq hx hy hz (pa_cons he (pa_cons hc2 (pa_cons hc3 pa_nil h3) h2) h1) hw hs) fun D σ H ⟨F, as, k, _⟩ => ⟨F, as, fun d v F1 H1 hd g ok o => ⟨F1, as.growU hj g ok, fun u F2 H2 g2 o2 n2 => ⟨F2, (as.growU hj g ok).grow g2, fun t F3 H3 g3 o3 n3 => ⟨v, u, t, rfl, by
    have a1 := (as.growU hj g ok).set_pu (i := i) o
    exact k F3 _ _ H3 (g.f.trans (g2.f.trans g3.f)) ⟨d, hd, rfl⟩ ((a1.set_new g2 o2 n2).set_new g3 o3 n3)⟩⟩⟩⟩
/-- x, y = e1, e; e draws, the names are held by inner blocks -/
theorem hs_parUc (i l j : Nat) {s1 : Sl} {x y : Str} {c : Expr} {px py pt : Pos} {kt k2 pt2} (hj : ρ[j]? = some (.ur a n)) (hc1 : PE X c (tN X.w B ρ s1)) (he : PE X e (tU X.w B ρ a m P)) (hN : X.N.Nodup) (hil : i ≠ l := by decide) (hi : X.N[i]? = some x := by rfl) (hl : X.N[l]? = some y := by rfl)
    (hx : Loc X.env.scope x := by first | exact Or.inl rfl | exact Or.inr rfl) (hy : Loc X.env.scope y := by first | exact Or.inl rfl | exact Or.inr rfl)
    (fx : X.fn x = true ∨ X.env.scope.names.lookup x = some .local := by first | exact .inl rfl | exact .inr rfl) (fy : X.fn y = true ∨ X.env.scope.names.lookup y = some .local := by first | exact .inl rfl | exact .inr rfl)
    (hpg : ∀ {t : TGs}, PGs X [.Name x px, .Name y py] t → PG X (.Tuple [.Name x px, .Name y py] kt pt) (gTup X.K 2 t) := by intro _ h; exact pg_tup rfl h)
    (hw : swappedStores [.Tuple [.Name x px, .Name y py] kt pt] (.Tuple [c, e] k2 pt2) X.env = pure none := by rfl)
    (hs : swapsWithSole [.Tuple [.Name x px, .Name y py] kt pt] (.Tuple [c, e] k2 pt2) pos.line X.env = pure false := by rfl)
    (hA : (assignEach [.Tuple [.Name x px, .Name y py] kt pt] X.env).map (·.2) = [assign (.Tuple [.Name x px, .Name y py] kt pt) X.env] := by rfl)
    (h1 : starEach [c, e] X.env = (false, eval c X.env) :: starEach [e] X.env := by rfl) (h2 : starEach [e] X.env = (false, eval e X.env) :: starEach [] X.env := by rfl) :
    PS X (.Assign [.Tuple [.Name x px, .Name y py] kt pt] (.Tuple [c, e] k2 pt2) pos) (tH X.w B ρ (fun r => ∃ d, P d ∧ r = ((ρ.set j (.ur a m)).set i s1).set l (.pu d)) R) :=
  weakS (ps_asg (pe_tup (pa_cons hc1 (pa_cons he pa_nil h2) h1)) (hpg (pgs_cons (pg_name hN hi hx fx) (pgs_cons (pg_name hN hl hy fy) pgs_nil))) hs hw hA) fun D σ H ⟨F, as, k, _⟩ => ⟨F, as, fun v F1 H1 g1 o1 n1 => ⟨F1, as.grow g1, fun d u F2 H2 hd g ok o => ⟨by show 2 ≤ sizeLine; decide, fun t ht => by
    have g3 : Gr F2 H2 F2 (upd H2 t (.tup [v, u])) := Gr.raw g.fh ht
    have a2 := ((as.grow g1).growU hj g ok).grow g3
    obtain ⟨va, hva, _, _, _, eva, _, hHa, _⟩ := as.ok j _ hj (fun z => by cases z)
    have hne : ∀ c, s1.own = true → v = .ref c → c ≠ a := fun c oc ec z => by
      subst z
      rw [n1 c oc ec] at hHa
      cases hHa
    refine ⟨t, _, rfl, SqT.of upd_same, rfl, _, _, rfl, _, _, rfl, rfl, ?_⟩
    refine k F2 _ _ _ (g1.f.trans g.f) ⟨d, hd, rfl⟩ (AS.set_pu (AS.set a2 (VOk.grow g3 (VOk.grow g (o1.dropU hne))) (fun b ob eb => as.gr.h.free (n1 b ob eb)) fun q t b hq eq o1' ot eb => ?_) o)
    intro hσ
    by_cases hqj : j = q
    · subst hqj
      rw [hva, eva] at hσ
      cases hσ
      exact hne _ o1' eb rfl
    · rw [List.getElem?_set_ne hqj] at eq
      obtain ⟨v', h1', h2'⟩ := as.ok q t eq (fun z => by rw [z] at ot; cases ot)
      obtain ⟨c', ec', _, hc'⟩ := h2'.own_ref ot
      rw [h1', ec'] at hσ
      cases hσ
      exact hc' (n1 _ o1' eb)⟩⟩⟩
theorem hs_par3Uc (i l q j : Nat) {s2 s3 : Sl} {x y z : Str} {c2 c3 : Expr} {px py pz pt : Pos} {kt k2 pt2} (hj : ρ[j]? = some (.ur a n)) (he : PE X e (tU X.w B ρ a m P)) (hc2 : PE X c2 (tN X.w B (ρ.set j (.ur a m)) s2)) (hc3 : PE X c3 (tN X.w B (ρ.set j (.ur a m)) s3)) (hN : X.N.Nodup)
    (hil : i ≠ l := by decide) (hiq : i ≠ q := by decide) (hlq : l ≠ q := by decide) (hi : X.N[i]? = some x := by rfl) (hl : X.N[l]? = some y := by rfl) (hq : X.N[q]? = some z := by rfl)
    (hx : Loc X.env.scope x := by first | exact Or.inl rfl | exact Or.inr rfl) (hy : Loc X.env.scope y := by first | exact Or.inl rfl | exact Or.inr rfl) (hz : Loc X.env.scope z := by first | exact Or.inl rfl | exact Or.inr rfl)
    (fx : X.fn x = true ∨ X.env.scope.names.lookup x = some .local := by first | exact .inl rfl | exact .inr rfl) (fy : X.fn y = true ∨ X.env.scope.names.lookup y = some .local := by first | exact .inl rfl | exact .inr rfl) (fz : X.fn z = true ∨ X.env.scope.names.lookup z = some .local := by first | exact .inl rfl | exact .inr rfl)
    (hpg : ∀ {t : TGs}, PGs X [.Name x px, .Name y py, .Name z pz] t → PG X (.Tuple [.Name x px, .Name y py, .Name z pz] kt pt) (gTup X.K 3 t) := by intro _ h; exact pg_tup rfl h)
    (hw : swappedStores [.Tuple [.Name x px, .Name y py, .Name z pz] kt pt] (.Tuple [e, c2, c3] k2 pt2) X.env = pure none := by rfl)
    (hs : swapsWithSole [.Tuple [.Name x px, .Name y py, .Name z pz] kt pt] (.Tuple [e, c2, c3] k2 pt2) pos.line X.env = pure false := by rfl)
    (hA : (assignEach [.Tuple [.Name x px, .Name y py, .Name z pz] kt pt] X.env).map (·.2) = [assign (.Tuple [.Name x px, .Name y py, .Name z pz] kt pt) X.env] := by rfl)
    (h1 : starEach [e, c2, c3] X.env = (false, eval e X.env) :: starEach [c2, c3] X.env := by rfl) (h2 : starEach [c2, c3] X.env = (false, eval c2 X.env) :: starEach [c3] X.env := by rfl) (h3 : starEach [c3] X.env = (false, eval c3 X.env) :: starEach [] X.env := by rfl) :
    PS X (.Assign [.Tuple [.Name x px, .Name y py, .Name z pz] kt pt] (.Tuple [e, c2, c3] k2 pt2) pos) (tH X.w B ρ (fun r => ∃ d, P d ∧ r = (((ρ.set j (.ur a m)).set i (.pu d)).set l s2).set q s3) R) :=
  weakS (ps_asg (pe_tup (pa_cons he (pa_cons hc2 (pa_cons hc3 pa_nil h3) h2) h1)) (hpg (pgs_cons (pg_name hN hi hx fx) (pgs_cons (pg_name hN hl hy fy) (pgs_cons (pg_name hN hq hz fz) pgs_nil)))) hs hw hA) fun D σ H ⟨F, as, k, _⟩ => ⟨F, as, fun d v F1 H1 hd g ok o => ⟨F1, as.growU hj g ok, fun u F2 H2 g2 o2 n2 => ⟨F2, (as.growU hj g ok).grow g2, fun t F3 H3 g3 o3 n3 => ⟨by show 3 ≤ sizeLine; decide, fun p hp => by
    have g4 : Gr F3 H3 F3 (upd H3 p (.tup [v, u, t])) := Gr.raw g3.fh hp
    have a1 := (as.growU hj g ok).set_pu (i := i) o
    refine ⟨p, _, rfl, SqT.of upd_same, rfl, _, _, rfl, _, _, rfl, _, _, rfl, rfl, ?_⟩
    exact k F3 _ _ _ (g.f.trans (g2.f.trans g3.f)) ⟨d, hd, rfl⟩ (((a1.set_new g2 o2 n2).set_new g3 o3 n3).grow g4)⟩⟩⟩⟩
end
end GY
namespace GY
open PySem PySem.Spec PyProof.Rows L2 PySem.W

/-! ## _law_take, _law_of, _law_told -/
def Pre_take (ss : List Sl) : Prop := ∃ j : Int, ss = [.pu (.int j)] ∧ 0 < j ∧ j < 1000
def Post_take (ss : List Sl) (d : PyData) : Prop := ∃ j i : Int, ss = [.pu (.int j)] ∧ d = .int i ∧ 0 ≤ i ∧ i < j
def Pre_of (ss : List Sl) : Prop := ∃ ds : List PyData, ss = [.pu (.list ds)] ∧ ds ≠ [] ∧ ds.length ≤ 100
def Post_of (ss : List Sl) (d : PyData) : Prop := ∃ ds : List PyData, ss = [.pu (.list ds)] ∧ d ∈ ds
/-- picks told, lot after lot -/
structure TQ (ls : List Lot) (t : Told) : Prop where
  sub : (t.map (·.1)).Sublist ls
  pick : ∀ p ∈ t, p.2 ∈ p.1
def Pre_told (ss : List Sl) : Prop := ∃ n : Nat, n ∈ [2, 3, 4] ∧ ss = [.pu (.int n)]
def Post_told (ss : List Sl) (d : PyData) : Prop := ∃ (n : Nat) (t : Told), n ∈ [2, 3, 4] ∧ ss = [.pu (.int n)] ∧ d = xD (t.map eP) ∧ TQ (lotsL n) t
theorem lotsL_nd : ∀ n ∈ [2, 3, 4], (lotsL n).Nodup := by decide +kernel
theorem lots_nd : ∀ n ∈ [2, 3, 4], ∀ l ∈ lotsL n, l.Nodup := by decide +kernel
theorem lots11 : ∀ n ∈ [2, 3, 4], (lotsL n).length ≤ 11 := by decide +kernel
theorem orders_ne : ∀ n ∈ [2, 3, 4], ordersL n ≠ [] ∧ (ordersL n).length ≤ 100 := by decide +kernel
theorem TQ.tv {n : Nat} (hn : n ∈ [2, 3, 4]) {t : Told} (h : TQ (lotsL n) t) : TV n t where
  len := by
    have h1 := h.sub.length_le
    have h2 := lotsL_len n hn
    rw [List.length_map] at h1
    omega
  lot := fun p hp => h.sub.subset (List.mem_map_of_mem hp)
  nd := h.sub.nodup (lotsL_nd n hn)
theorem TQ.snoc {ls : List Lot} {t : Told} {l : Lot} {a : Int} (h : TQ ls t) (ha : a ∈ l) : TQ (ls ++ [l]) (t ++ [(l, a)]) where
  sub := by rw [List.map_append]; exact h.sub.append (List.Sublist.refl _)
  pick := fun p hp => by
    rcases List.mem_append.mp hp with z | z
    · exact h.pick p z
    · rw [List.mem_singleton.mp z]; exact ha
theorem TQ.skip {ls : List Lot} {t : Told} {l : Lot} (h : TQ ls t) : TQ (ls ++ [l]) t :=
  ⟨h.sub.trans (List.sublist_append_left ..), h.pick⟩
theorem filt_ne {l : Lot} (h : l.Nodup) (h2 : 2 ≤ l.length) (b : Bool) (f : Int) : (l.filter fun x => b || !decide (x = f)) ≠ [] := by
  intro z
  have hz := List.filter_eq_nil_iff.mp z
  match l, h, h2, hz with
  | x :: y :: r, h, _, hz =>
    have h1 := hz x List.mem_cons_self
    have h3 := hz y (List.mem_cons_of_mem _ List.mem_cons_self)
    simp at h1 h3
    have : x = y := h1.2.trans h3.2.symm
    subst this
    simp at h
theorem take_int {j : Int} : ∀ d, Post_take [.pu (.int j)] d → ∃ i, d = .int i := fun d ⟨_, i, _, e, _⟩ => ⟨i, e⟩
section
variable {P : Program} {w : World} {K : PySem.W.Frag} {mg : Str → Option Value} {base : Heap} {f : Addr} {fd : FuncData} {k : Nat}
theorem ok_law_take (M : Mg mg) (F : Fun K "_law_take" "_law_take" s_law_take f fd) : FnOk P w K mg base CX0 (k + 1) f fd ["_law_urn", "_law_low_so"] (spU w 1 Pre_take Post_take) := by
  refine okU F sc_law_take (fun ss ⟨j, e, _⟩ => by rw [e]; exact ⟨rfl, no1⟩) (fun cdv A outer sh H E B ss a n hr hn ⟨j, e, h0, h1⟩ => ?_)
  subst e
  refine hs_open 0 rfl fun x y z hu => ?_
  obtain ⟨⟨hy0, hy1⟩, hz0, hz1⟩ := hu
  by_cases hx : 0 < x
  · refine hs_cons (M := fun _ => False) (hs_if (b := true) (deqP (tC (cgt (dixu (m := x) (dvar 0) dint rfl) dint)) (decide_eq_true hx)) (fun _ => ?_) fun z => by cases z) fun _ z => z.elim
    refine hs_then (hs_set 2 (dN (dmodN (dintI M.int_ (dixu (m := x) (dvar 0) dint rfl)) (dvar 1) h0)) sc_law_take.nd) ?_
    refine hs_then (hs_putU 0 (x' := x / j) (y' := y) (z' := z) (q := 0) (n := 0) dint (dfdiv (dixu (m := x) (dvar 0) dint rfl) (dvar 1) ⟨h0, by omega⟩) rfl rfl) ?_
    exact hs_one (hs_ret (dN (dvar 2)) ⟨_, rfl, ⟨j, _, rfl, rfl, Int.emod_nonneg _ (by omega), Int.emod_lt_of_pos _ h0⟩, .inr ⟨x / j, y, z, rfl, ⟨hy0, hy1⟩, hz0, by omega⟩⟩)
  · refine hs_then (hs_if (b := false) (deqP (tC (cgt (dixu (m := x) (dvar 0) dint rfl) dint)) (decide_eq_false hx)) (fun z => by cases z) fun _ => hs_nil) ?_
    refine hs_then (hs_putU 0 (x' := x) (y' := y) (z' := z + 1) (q := 2) (n := 2) dint (dadd (dixu (m := z) (dvar 0) dint rfl) dint) rfl rfl) ?_
    refine hs_then (hs_set 3 (dN (dmodN (dintI M.int_ (dmul (dadd (dixu (m := y) (dvar 0) dint rfl) (dmul dint (dixu (m := z + 1) (dvar 0) dint rfl) (.inl (by omega)))) (dadd dint (dixu (m := z + 1) (dvar 0) dint rfl)) (.inr (by omega)))) dint (by omega))) sc_law_take.nd) ?_
    have e1 := Int.emod_nonneg ((y + 48271 * (z + 1)) * (39373 + (z + 1))) (show (2147483647 : Int) ≠ 0 by omega)
    have e2 := Int.emod_lt_of_pos ((y + 48271 * (z + 1)) * (39373 + (z + 1))) (show (0 : Int) < 2147483647 by omega)
    generalize (y + 48271 * (z + 1)) * (39373 + (z + 1)) % 2147483647 = once at e1 e2 ⊢
    refine hs_then (hs_set 4 (dN (dadd (dmodN (dintI M.int_ (dvar 3)) dint (by omega)) dint)) sc_law_take.nd) ?_
    refine hs_then (hs_set 5 (dN (dmodN (dintI M.int_ (dmul (dadd (dadd (dvar 3) (dixu (m := z + 1) (dvar 0) dint rfl)) (dfdiv (dixu (m := y) (dvar 0) dint rfl) dint ⟨by omega, by omega⟩)) (dvar 4) (.inr (by omega)))) dint (by omega))) sc_law_take.nd) ?_
    have e3 := Int.emod_nonneg ((once + (z + 1) + y / 1000003) * (once % 40009 + 7)) (show (2147483629 : Int) ≠ 0 by omega)
    have e4 := Int.emod_lt_of_pos ((once + (z + 1) + y / 1000003) * (once % 40009 + 7)) (show (0 : Int) < 2147483629 by omega)
    generalize (once + (z + 1) + y / 1000003) * (once % 40009 + 7) % 2147483629 = twice at e3 e4 ⊢
    exact hs_one (hs_ret (dN (dmodN (dintI M.int_ (dfdiv (dmodN (dintI M.int_ (dadd (dmul (dvar 5) dint (.inr (by omega))) (dvar 3))) dint (by omega)) dint ⟨by omega, by omega⟩)) (dvar 1) h0)) ⟨_, rfl, ⟨j, _, rfl, rfl, Int.emod_nonneg _ (by omega), Int.emod_lt_of_pos _ h0⟩, .inr ⟨x, y, z + 1, rfl, ⟨hy0, hy1⟩, by omega, by omega⟩⟩)
theorem ok_law_of (M : Mg mg) (Gt : Cal P w K mg base CX0 k "_law_take" ["_law_urn", "_law_low_so"] (spU w 1 Pre_take Post_take)) (F : Fun K "_law_of" "_law_of" s_law_of f fd) : FnOk P w K mg base CX0 (k + 1) f fd ["_law_urn", "_law_goods"] (spU w 1 Pre_of Post_of) := by
  refine okU F sc_law_of (fun ss ⟨ds, e, _⟩ => by rw [e]; exact ⟨rfl, no1⟩) (fun cdv A outer sh H E B ss a n hr hn ⟨ds, e, h0, h1⟩ => ?_)
  subst e
  have hpos : 0 < ds.length := List.length_pos_iff.mpr h0
  refine hs_one (hs_retU 0 rfl (uix (P := Post_take [.pu (.int (ds.length : Int))]) (P' := fun d => d ∈ ds) (ds := ds) (fun d ⟨j, i, ej, ed, i0, i1⟩ => ?_) (dvar 1) (ucall Gt hr (acons (dvar 0) (acons (dlen M.len_ (dvar 1)) anil)) hn ⟨_, rfl, by omega, by omega⟩)) (fun d hd => ⟨d, rfl, ⟨ds, rfl, hd⟩, .inl ⟨n + 1, Nat.le_refl _, rfl⟩⟩))
  cases ej
  have hlt : i.toNat < ds.length := by omega
  refine ⟨i, ds[i.toNat], ed, ?_, List.getElem_mem hlt⟩
  have : ixN ds.length i = some i.toNat := by unfold ixN; rw [if_pos i0, if_pos (by omega)]
  unfold L2.atI
  rw [this]
  exact List.getElem?_eq_getElem hlt
theorem ok_law_told (M : Mg mg) (Gt : Cal P w K mg base CX0 k "_law_take" ["_law_urn", "_law_low_so"] (spU w 1 Pre_take Post_take)) (Gf : Cal P w K mg base CX0 k "_law_of" ["_law_urn", "_law_goods"] (spU w 1 Pre_of Post_of)) (Go : Cal P w K mg base CX0 k "_law_orders" ["_law_m"] (spS w Sp_law_orders))
    (Gl : Cal P w K mg base CX0 k "_law_lots" ["_law_m", "_law_least"] (spS w Sp_law_lots)) (Gi : Cal P w K mg base CX0 k "_law_first" ["_law_order", "_law_lot"] (spS w Sp_first_in)) (F : Fun K "_law_told" "_law_told" s_law_told f fd) : FnOk P w K mg base CX0 (k + 1) f fd ["_law_urn", "_law_m"] (spU w 24 Pre_told Post_told) := by
  refine okU F sc_law_told (fun ss ⟨m, _, e⟩ => by rw [e]; exact ⟨rfl, no1⟩) (fun cdv A outer sh H E B ss a n hr hn ⟨m, hm, e⟩ => ?_)
  subst e
  have h11 := lots11 m hm
  have ho := orders_ne m hm
  refine hs_cons (hs_parUc 2 3 0 rfl (dlstN (ds := []) anil) (ucall Gf hr (acons (dvar 0) (acons (dV (dcall Go hr (acons (dvar 1) anil) ⟨m, hm, rfl, rfl⟩)) anil)) (by omega) ⟨_, rfl, by simpa using ho.1, by rw [List.length_map]; exact ho.2⟩) sc_law_told.nd) ?_
  rintro ρ' ⟨d, ⟨ds, eds, hd⟩, rfl⟩
  cases eds
  obtain ⟨o, hoo, rfl⟩ := List.mem_map.mp hd
  refine hs_cons (hs_setU 4 0 rfl (ueq0 take_int 0 rfl (ucall Gt hr (acons (dvar 0) (acons dint anil)) (by omega) ⟨2, rfl, by omega, by omega⟩)) sc_law_told.nd) ?_
  rintro ρ' ⟨d, ⟨b, rfl⟩, rfl⟩
  refine hs_cons (hs_for (ds := (lotsL m).map dI) (P := fun i ρ => ∃ (t : Told) (n' : Nat), n' ≤ n + 2 + 2 * i ∧ TQ ((lotsL m).take i) t ∧ ρ = [.ur a n', .pu (.int m), .ol (t.map eP), .pu (dI o), .pu (.bool b), .un, .un]) (ρb := fun _ d ρ => ρ.set 5 (.pu d)) (js := [5]) PassesOwn.never rfl (iseq (dfz (dcall Gl hr (acons (dvar 1) (acons dint anil)) ⟨m, hm, rfl, rfl⟩))) (pg_name sc_law_told.nd rfl (Or.inr rfl) (by first | exact .inl rfl | exact .inr rfl))
    ⟨[], n + 1 + 1, by omega, ⟨by simp, fun _ h => by cases h⟩, rfl⟩ (fun _ _ _ _ _ => bd1 5) ?_) ?_
  · rintro i d ρ hd ⟨t, n', hn', ht, rfl⟩
    rw [List.getElem?_map] at hd
    cases hl : (lotsL m)[i]? with
    | none => rw [hl] at hd; cases hd
    | some l =>
      rw [hl] at hd
      cases hd
      have hlm := List.mem_of_getElem? hl
      have hi : i < (lotsL m).length := (List.getElem?_eq_some_iff.mp hl).1
      obtain ⟨hne, hl4, hl2⟩ := lots_ne m hm l hlm
      have etk : (lotsL m).take (i + 1) = (lotsL m).take i ++ [l] := by rw [List.take_add_one, hl]; rfl
      have htl : t.length ≤ 11 := by
        have h1 := ht.sub.length_le
        rw [List.length_map, List.length_take] at h1
        omega
      refine hs_one (hs_ifU 0 rfl (utest0 take_int 0 rfl (ucall Gt hr (acons (dvar 0) (acons dint anil)) (by omega) ⟨2, rfl, by omega, by omega⟩)) ?_ ?_)
      · refine hss_post (hs_one (hs_appendU 2 0 (ds := t.map eP) rfl (utup2 (dvar 5) (ucall Gf hr (acons (dvar 0) (acons (dfz (dlc1 6 PyData.int (fun x => b || !decide (x = fI o l)) PyData.int sc_law_told.nd (iseq (dvar 5)) (fun x _ => pts_one (PW.pt (tor2 (tcmp (dvar 4)) fun _ => tor1 (tC (cneI (dvar 6) (dV (dcall Gi hr (acons (dvar 3) (acons (dvar 5) anil)) ⟨o, l, fI o l, rfl, orders_len m hm o hoo, first_all m hm o hoo l hlm, rfl⟩))))))) (fun _ _ _ => dvar 6) (by omega))) anil)) (by omega) ⟨_, rfl, by simpa using filt_ne (lots_nd m hm l hlm) hl2 b (fI o l), by rw [List.length_map]; exact Nat.le_trans (List.length_filter_le _ _) (by omega)⟩)) (by rw [List.length_map]; omega))) ?_
        rintro ρ' ⟨d, ⟨d2, ⟨ds, eds, hd2⟩, rfl⟩, rfl⟩
        cases eds
        obtain ⟨x, hx, rfl⟩ := List.mem_map.mp hd2
        have hx' := (List.mem_filter.mp hx).1
        refine Up.to (ρ' := _) ?_ ⟨t ++ [(l, x)], n' + 1 + 1, by omega, ?_, rfl⟩
        · rw [List.map_append]
          exact .keep (.keep (.keep (.keep (.keep (.drop (.keep .nil))))))
        · rw [etk]; exact ht.snoc hx'
      · refine hss_post hs_nil fun ρ' e => ?_
        subst e
        refine Up.to (ρ' := _) ?_ ⟨t, n' + 1, by omega, ?_, rfl⟩
        · exact .keep (.keep (.keep (.keep (.keep (.drop (.keep .nil))))))
        · rw [etk]; exact ht.skip
  · rintro ρ' ⟨t, n', hn', ht, rfl⟩
    rw [List.length_map] at hn' ht
    rw [List.take_length] at ht
    have htl := (ht.tv hm).len
    exact hs_one (hs_ret (dN (dtupleX M.tuple_ (ds := t.map eP) (dvar 2) (hl := by rw [List.length_map]; omega))) ⟨_, rfl, ⟨m, t, hm, rfl, rfl, ht⟩, .inl ⟨n', by omega, rfl⟩⟩)
end
end GY
namespace GY
open PySem PySem.Spec PyProof.Rows L2 PySem.W

/-! ## enumerate, or of lists, _law_cells, _law_box -/
abbrev enumD (ds : List PyData) : List PyData := ds.zipIdx.map fun p => .tuple [.int (p.2 : Int), p.1]
theorem yld_enum {K : PySem.W.Frag} {F : Hp} {a : Addr} {xs : List V} {ds : List PyData} (h : F a = some (.lst xs)) (r : RpAll F xs ds) : Yld F (Ite K a) (enumD ds) where
  go := fun i F1 H1 e f hi => by
    have hi' : i < xs.length := by rw [r.length]; simpa using hi
    exact ⟨xs, xs[i], SqL.of (f _ _ (e _ _ h)), by simp⟩
  stop := fun F1 H1 e f => ⟨xs, SqL.of (f _ _ (e _ _ h)), by rw [r.length]; simp⟩
  yld := fun i F1 H1 x H' d e f hd ⟨T, y, ex, hT, eH, hy⟩ => by
    subst ex eH
    have hx := hy xs (SqL.of (f _ _ (e _ _ h)))
    obtain ⟨d', h1, h2⟩ := r.get hx
    rw [List.getElem?_map, List.getElem?_zipIdx, h1] at hd
    cases hd
    refine ⟨_, Gr.new f hT, Rp.tup upd_same (.cons ?_ (.cons (Rp.mono (e.trans (same_upd (f.free hT))) _ _ h2) .nil))⟩
    simpa using Rp.int (F := upd F1 T (.tup [.int (i : Int), y])) (i : Int)
section
variable {X : Cx} {e a b : Expr} {pos : Pos} {B : Bs} {ρ : List Sl} {ds es : List PyData}
theorem ienum {p tpos : Pos} {elts : List Expr} {kk : Nat} (hm : X.mg "enumerate" = none) (h : PE X e (tV X.w B ρ (.pu (.list ds)))) (hg : Gl X "enumerate" := by rfl) (hs : starEach [e] X.env = [(false, eval e X.env)] := by rfl) :
    PI X (.Tuple elts kk tpos) (.Call (.Name "enumerate" p) [e] [] pos) (tI X.w B ρ (enumD ds)) :=
  weakI (pi_enum hg hm (acons h anil hs) hs) fun σ H R ⟨F, as, k⟩ => ⟨F, as, fun vs F1 H1 g o => by
    obtain ⟨v, ev, ov⟩ := o.one
    obtain ⟨q, xs, ex, hq, r⟩ := Rp.list_inv ov
    exact ⟨q, xs, by rw [ev, ex], SqL.of (g.fh _ _ hq), k _ F1 H1 g (yld_enum hq r)⟩⟩
/-- a or b, of new lists -/
theorem dorL (h : PE X a (tN X.w B ρ (.ol ds))) (h2 : PE X b (tN X.w B ρ (.ol es))) : PE X (.BoolOp .Or [a, b] pos) (tN X.w B ρ (.ol (if ds.isEmpty = true then es else ds))) :=
  weakE (pe_orT h (pe_one h2)) fun σ H Q ⟨F, as, k⟩ => ⟨F, as, fun v F1 H1 g o n => by
    obtain ⟨p, xs, ev, fp, hp, r⟩ := id o
    subst ev
    refine ⟨!xs.isEmpty, .inl ⟨xs, SqL.of hp, rfl⟩, ?_⟩
    cases r with
    | nil =>
      show (tN X.w B ρ (.ol es)) σ H1 Q
      exact ⟨F1, as.grow g, fun v2 F2 H2 g2 o2 n2 => k v2 F2 H2 (g.trans g2) o2 fun c oc ec => g.h.free (n2 c oc ec)⟩
    | cons r1 r2 =>
      show Q (.ref p) H1
      exact k _ F1 H1 g o n⟩
end
theorem sql_mono {K : PySem.W.Frag} {H H' : Hp} {a : Addr} {xs : List V} (e : Same H H') (h : SqL K H a xs) : SqL K H' a xs := by
  rcases h with h | h
  · exact .inl (rdm e h)
  · exact .inr h
/-- a slice of a list that stands at a known address -/
theorem dsliceK {X : Cx} {e : Expr} {pos : Pos} {B : Bs} {ρ : List Sl} {lo hi : Option Expr} {m n : Option Int} {p2 : Pos} {a : Addr} {ns : List Int} (h : PE X e (tV X.w B ρ (.ad (.ref a)))) (hs : SqL X.K B.2 a (ns.map V.int)) (hl : PO X lo (tOpt X.w B ρ m)) (hh : PO X hi (tOpt X.w B ρ n)) : PE X (.Subscript e (.Slice lo hi none p2) pos) (tV X.w B ρ (.pu (.list (cutD (ns.map .int) m n)))) :=
  weakE (pe_slice sl_list h hl hh) fun σ H Q ⟨F, as, k⟩ => ⟨F, as, fun v F1 H1 g1 o1 => ⟨F1, as.grow g1, fun F2 H2 g2 => ⟨F2, (as.grow g1).grow g2, fun F3 H3 g3 => by
    have ev : v = .ref a := o1
    have s3 : Same B.2 H3 := as.gr.h.trans (g1.h.trans (g2.h.trans g3.h))
    refine ⟨a, ns.map V.int, ev, sql_mono s3 hs, fun t ht => ?_⟩
    refine k _ _ _ (g1.trans (g2.trans (g3.trans (Gr.new g3.fh ht)))) (Rp.lst upd_same ((RpAll.of_ints ns).cut m n))⟩⟩⟩
def cellsN (ns : List Int) : Nat → Int
  | 0 => ns.headD 0
  | j + 1 => cellsN ns j + (ns.drop 1).getD j 0 * ((j : Int) + 2)
def cellsF (ns : List Int) : Int := cellsN ns ((ns.drop 1).take 62).length
/-- the script's own list, wherever it stands -/
def spC (w : World) (K : PySem.W.Frag) : Sp := fun vs H Q _ => ∃ (a : Addr) (ns : List Int) (F : Hp), vs = [.ref a, .int 1] ∧ ns.length ≤ 63 ∧ Same F H ∧ SqL K H a (ns.map V.int) ∧ ∀ v F' H', Gr F H F' H' → VOk w F' H' v (.ol [.int (cellsF ns)]) → (∀ b, v = .ref b → H b = none) → Q v H'
def boxA (x : Int) : Int := (if x < 0 then -x else x) * (if decide ((10 : Int) ^ (18 : Int).toNat ≤ (if x < 0 then -x else x)) = true then 1 else 0)
def boxB (x : Int) : Int := x % 2305843009213693951 + 39373 * 0 + 3168085
def Sp_law_box (ss : List Sl) (s : Sl) : Prop := ∃ x : Int, ss = [.pu (.list [.int x]), .pu (.int 0)] ∧ s = .ol [.int (boxA x), .int (boxB x), .int 0]
theorem boxB_ok (x : Int) : 0 ≤ boxB x ∧ boxB x < 2 ^ 62 := by
  have h1 := Int.emod_nonneg x (show (2305843009213693951 : Int) ≠ 0 by omega)
  have h2 := Int.emod_lt_of_pos x (show (0 : Int) < 2305843009213693951 by omega)
  unfold boxB
  omega
section
variable {P : Program} {w : World} {K : PySem.W.Frag} {mg : Str → Option Value} {base : Heap} {f : Addr} {fd : FuncData} {k : Nat}
theorem ok_law_box (M : Mg mg) (F : Fun K "_law_box" "_law_box" s_law_box f fd) : FnOk P w K mg base CX0 (k + 1) f fd ["_law_script", "_law_k"] (spS w Sp_law_box) := by
  refine okD F sc_law_box (fun ss s ⟨x, e, _⟩ => by rw [e]; exact ⟨rfl, no2⟩) (fun cdv A outer sh H E B ss s hr ⟨x, e, es⟩ => ?_)
  subst e es
  refine hs_then (hs_set 2 (dN (dif (c := true) (deqP (tC (clt (dvar 1) (dlen (ds := [.int x]) M.len_ (dvar 0)))) rfl) (fun _ => dixd (ds := [.int x]) (d := .int x) (dvar 0) (dvar 1) rfl) fun z => by cases z)) sc_law_box.nd) ?_
  refine hs_one (hs_ret (deqN (dlstN (ds := [.int (boxA x), .int (boxB x), .int 0]) (acons (dmul (dabs M.abs_ (dvar 2)) (dintB M.int_ (dC (cge (dabs M.abs_ (dvar 2)) (dpow dint dint ⟨by omega, by omega, by decide⟩)))) (.inr ?_)) (acons (dadd (dadd (dmodN (dintI M.int_ (dvar 2)) dint (by omega)) (dmul dint (dvar 1) (.inr (by omega)))) dint) (acons dint anil))) (hl := by simp)) rfl) rfl)
  split <;> omega
theorem ok_law_cells (M : Mg mg) (F : Fun K "_law_cells" "_law_cells" s_law_cells f fd) : FnOk P w K mg base CX0 (k + 1) f fd ["_law_script", "_law_top"] (spC w K) := by
  refine F.ok sc_law_cells (fun vs H Q E h => by obtain ⟨a, ns, F0, e, _⟩ := h; rw [e]; rfl) (fun cdv A outer sh H vs Q E hr h => ?_)
  obtain ⟨a, ns, F0, e, hn, f0, hsq, q⟩ := h
  subst e
  have r0 : VsOk w F0 H [.ref a, .int 1] [.ad (.ref a), .pu (.int 1)] := .cons rfl (.cons (Rp.int 1) .nil)
  have hsK : SqL (cxOf CX0 P w K mg base n_law_cells "_law_cells" (defScope s_law_cells) f cdv A outer sh H E).nox.K ((F0, H) : Bs).2 a (ns.map V.int) := hsq
  suffices body : PSs (cxOf CX0 P w K mg base n_law_cells "_law_cells" (defScope s_law_cells) f cdv A outer sh H E).nox (defBody s_law_cells) (tH w (F0, H) (atN n_law_cells [.ad (.ref a), .pu (.int 1)]) (fun _ => False) (fun s' _ => s' = .ol [.int (cellsF ns)])) from
    ⟨_, body, F0, as_start f0 r0 (fun s h => by simp at h; rcases h with z | z <;> rw [z] <;> rfl), fun _ _ _ _ _ z => z.elim, fun F' s' v ρ' σ' H' es as o n => by subst es; exact q v F' H' as.gr o fun b eb => n b rfl eb⟩
  have e1 : cutD (ns.map PyData.int) none (some 1) = (ns.take 1).map .int := by
    unfold cutD
    rw [HT.sIx_none, show (some (1 : Int)) = some ((1 : Nat) : Int) from rfl, HT.sIx_nat, List.length_map, List.drop_zero, Nat.sub_zero, ← List.map_take]
    congr 1
    rw [List.take_eq_take_iff]
    omega
  have e2 : cutD (ns.map PyData.int) (some 1) (some 63) = ((ns.drop 1).take 62).map .int := by
    unfold cutD
    rw [show (some (1 : Int)) = some ((1 : Nat) : Int) from rfl, show (some (63 : Int)) = some ((63 : Nat) : Int) from rfl, HT.sIx_nat, HT.sIx_nat, List.length_map, ← List.map_drop, ← List.map_take]
    congr 1
    cases ns with
    | nil => simp
    | cons x r =>
      rw [show min 1 (x :: r).length = 1 by rw [List.length_cons]; omega]
      rw [List.take_eq_take_iff]
      rw [List.length_cons] at hn
      rw [List.length_drop, List.length_cons]
      omega
  refine hs_then (hs_set 2 (deqN (s1 := .ol [.int (cellsN ns 0)]) (dorL (dlistN M.list_ (deqT (dsliceK (dvar 0) hsK onone (osome (dvar 1))) (by rw [e1]))) (dlstN (ds := [.int 0]) (acons dint anil) (hl := by simp))) (by cases ns <;> rfl)) sc_law_cells.nd) ?_
  refine hs_then (hs_for2 (α := PyData × Nat) 3 4 (fun j => [.ad (.ref a), .pu (.int 1), .ol [.int (cellsN ns j)], .un, .un, .un]) (fun p => .tuple [.int (p.2 : Int), p.1]) (fun p => .int (p.2 : Int)) (fun p => p.1) (xs := (((ns.drop 1).take 62).map PyData.int).zipIdx) sc_law_cells.nd PassesOwn.never (ienum M.enumerate_ (deqT (dsliceK (dvar 0) hsK (osome (dvar 1)) (osome dint)) (by rw [e2]))) (fun _ _ => rfl) rfl fun j p hp => ?_) ?_
  · rw [List.getElem?_zipIdx, List.getElem?_map] at hp
    cases hc : ((ns.drop 1).take 62)[j]? with
    | none => rw [hc] at hp; cases hp
    | some c =>
      rw [hc] at hp
      cases hp
      have hc2 : (ns.drop 1).getD j 0 = c := by
        have h62 : j < 62 := by
          have := (List.getElem?_eq_some_iff.mp hc).1
          rw [List.length_take] at this
          omega
        rw [List.getElem?_take, if_pos h62] at hc
        rw [List.getD_eq_getElem?_getD, hc]
        rfl
      have hj : j < 63 := by
        have := (List.getElem?_eq_some_iff.mp hc).1
        rw [List.length_take] at this
        omega
      refine hs_then (hs_set 5 (dN (deqT (s' := .pu (.int 0)) (dmodN (i := ((0 + j : Nat) : Int)) (j := 1) (dintI M.int_ (dvar 3)) (dvar 1) (by omega)) (by rw [Int.emod_one]))) sc_law_cells.nd) ?_
      refine hss_post (hs_one (hs_put 2 0 (ds := [.int (cellsN ns j)]) (n := 0) (dvar 5) (dadd (dixo (ds := [.int (cellsN ns j)]) (dvar 2) (dvar 5) rfl) (dmul (i := c) (dvar 4) (dadd (i := ((0 + j : Nat) : Int)) (dvar 3) dint) (.inr (by omega)))) rfl)) fun ρ' e => ?_
      subst e
      refine Up.to (ρ' := _) ?_ rfl
      have e3 : cellsN ns (j + 1) = cellsN ns j + c * (((0 + j : Nat) : Int) + 2) := by rw [cellsN, hc2, Nat.zero_add]
      rw [e3]
      exact .keep (.keep (.keep (.drop (.drop (.drop .nil)))))
  · refine hs_one (hs_retO 2 ?_)
    rw [List.length_zipIdx, List.length_map]
    rfl
end
end GY
namespace GY
open PySem PySem.Spec PyProof.Rows L2 PySem.W

/-! ## two, three areas: all picks told gone through -/
def fitB (t r : Told) : Bool := (t.filter fun p => !decide (tGet r p.1 = some p.2)).isEmpty
def fineL (n : Nat) (t : Told) : List Told := (rulesL n).filter (fitB t)
def goodR (n : Nat) (r : Told) : Bool := !((ordersL n).filter (goesL r)).isEmpty
def goodL (n : Nat) (t : Told) : List Told := (fineL n t).filter (goodR n)
def someL (n : Nat) (t : Told) : List Told := (fineL n t).take 2 ++ (goodL n t).take 1
def pickL (n : Nat) (t : Told) (l : Lot) : List Int := (goodL n t).map fun r => (tGet r l).getD 0
def minL : List Int → Int
  | [] => 0
  | x :: xs => xs.foldl min x
def sureB (n : Nat) (t : Told) (l : Lot) : Bool := !(pickL n t l).isEmpty && decide (minL (pickL n t l) = maxL (pickL n t l))
def sureM (n : Nat) (t : Told) : Told := ((lotsL n).filter (sureB n t)).map fun l => (l, (pickL n t l).headD 0)
def asksM (n : Nat) (t : Told) : List (Int × Lot) := ((lotsL n).filter fun l => !(tGet t l).isSome).map fun l => (maxL (l.map fun a => ((pickL n t l).count a : Int)), l)
/-- all picks told of some lots, each lot once at most -/
def toldsR : List Lot → List Told
  | [] => [[]]
  | l :: ls => toldsR ls ++ l.flatMap fun a => (toldsR ls).map fun t => (l, a) :: t
theorem toldsR_mem : ∀ (ls : List Lot) (t : Told), (t.map (·.1)).Sublist ls → (∀ p ∈ t, p.2 ∈ p.1) → t ∈ toldsR ls
  | [], t, h, _ => by
    have : t = [] := by
      have := List.sublist_nil.mp h
      simpa using this
    subst this
    exact List.mem_singleton.mpr rfl
  | l :: ls, t, h, hp => by
    rw [toldsR, List.mem_append]
    cases t with
    | nil => exact .inl (toldsR_mem ls [] (List.nil_sublist _) hp)
    | cons p t =>
      rw [List.map_cons] at h
      cases h with
      | cons _ h => exact .inl (toldsR_mem ls (p :: t) (by rw [List.map_cons]; exact h) hp)
      | cons_cons _ h =>
        refine .inr (List.mem_flatMap.mpr ⟨p.2, hp p List.mem_cons_self, List.mem_map.mpr ⟨t, toldsR_mem ls t h fun q hq => hp q (List.mem_cons_of_mem _ hq), rfl⟩⟩)
def bestL (l : List (Int × Lot)) : Lot := match l with
  | [] => []
  | x :: xs => (bestE x xs).2
def smallB (n : Nat) (t : Told) : Bool :=
  let g := goodL n t
  decide ((someL n t).map (fitsL t) = (someL n t).map fun _ => true) &&
  decide ((someL n t).map (fun r => decide (widthL n r = 1)) = (someL n t).map fun r => decide (r ∈ g)) &&
  decide (g.isEmpty = (ordersT n t).isEmpty) && decide (W t n (fullL n) = (g.length : Int)) &&
  (g.isEmpty || decide (sortT n (sureL n t) = sureM n t)) &&
  (decide (g.length ≤ 1) || (!(asks n t).isEmpty && !(asksM n t).isEmpty && decide (bestL (asks n t) = bestL (asksM n t))))
set_option maxHeartbeats 0 in
theorem small_all : ∀ n ∈ [2, 3], ∀ t ∈ toldsR (lotsL n), smallB n t = true := by decide +kernel
end GY
namespace GY
open PySem PySem.Spec PyProof.Rows L2 PySem.W

/-! ## data that the law compares -/
theorem SD_int (n : Nat) (i : Int) : SD n (.int i) := by cases n with
  | zero => exact .inl ⟨i, rfl⟩
  | succ n => exact .inl (.inl ⟨i, rfl⟩)
theorem SD_bool (n : Nat) (i : Bool) : SD n (.bool i) := by cases n with
  | zero => exact .inr (.inl ⟨i, rfl⟩)
  | succ n => exact .inl (.inr (.inl ⟨i, rfl⟩))
theorem SD_none (n : Nat) : SD n .none := by cases n with
  | zero => exact .inr (.inr (.inl rfl))
  | succ n => exact .inl (.inr (.inr (.inl rfl)))
theorem SD_str (n : Nat) (x : Str) (h : SeqAt.shaped (.str x) = true) : SD n (.str x) := by cases n with
  | zero => exact .inr (.inr (.inr ⟨x, rfl, h⟩))
  | succ n => exact .inl (.inr (.inr (.inr ⟨x, rfl, h⟩)))
theorem SD_list {n : Nat} {ds : List PyData} (hl : ds.length ≤ 1000) (h : ∀ e ∈ ds, SD n e) : SD (n + 1) (.list ds) := .inr ⟨ds, .inl rfl, hl, h⟩
theorem SD_tup {n : Nat} {ds : List PyData} (hl : ds.length ≤ 1000) (h : ∀ e ∈ ds, SD n e) : SD (n + 1) (.tuple ds) := .inr ⟨ds, .inr rfl, hl, h⟩
theorem SD_map {α : Type} {n : Nat} {f : α → PyData} {l : List α} (h : ∀ a ∈ l, SD n (f a)) : ∀ e ∈ l.map f, SD n e := fun e he => by
  obtain ⟨a, ha, rfl⟩ := List.mem_map.mp he
  exact h a ha
theorem SD_dI (n : Nat) {l : Lot} (hl : l.length ≤ 1000) : SD (n + 1) (dI l) := SD_tup (by rw [List.length_map]; exact hl) (SD_map fun a _ => SD_int n a)
theorem SD_lots (n : Nat) {ls : List Lot} (hl : ls.length ≤ 1000) (h : ∀ l ∈ ls, l.length ≤ 1000) : SD (n + 2) (.list (ls.map dI)) := SD_list (by rw [List.length_map]; exact hl) (SD_map fun a ha => SD_dI n (h a ha))
theorem SD_told (n : Nat) {t : Told} (hl : t.length ≤ 1000) (h : ∀ p ∈ t, p.1.length ≤ 1000) : SD (n + 3) (.tuple (t.map eP)) := SD_tup (by rw [List.length_map]; exact hl) (SD_map fun p hp => SD_tup (by simp) fun e he => by
  rcases List.mem_cons.mp he with z | z
  · rw [z]; exact SD_dI n (h p hp)
  · rw [List.mem_singleton.mp z]; exact SD_int _ _)
theorem SD_cannot (n : Nat) : SD (n + 1) cannotD := SD_list (by simp) fun e he => by
  rw [List.mem_singleton.mp he]
  exact SD_str n _ (by decide +kernel)
theorem SD_mem2 {n : Nat} {a b : PyData} (ha : SD n a) (hb : SD n b) : ∀ e ∈ [a, b], SD n e := fun e he => by
  rcases List.mem_cons.mp he with z | z
  · rw [z]; exact ha
  · rw [List.mem_singleton.mp z]; exact hb
theorem cutT {α : Type} (f : α → PyData) (l : List α) (k : Nat) : cutD (l.map f) none (some (k : Int)) = (l.take k).map f := by
  unfold cutD
  rw [HT.sIx_none, HT.sIx_nat, List.length_map, List.drop_zero, Nat.sub_zero, ← List.map_take]
  congr 1
  rw [List.take_eq_take_iff]
  omega
/-! ## rules -/
theorem rule_keys : ∀ n ∈ [2, 3], ∀ r ∈ rulesL n, r.map (·.1) = lotsL n := fun n hn r hr => by
  have h := rs_tv n hn (lotsL n).length (by simp) r (by rw [List.take_length]; exact hr)
  rw [List.take_length] at h
  exact h
theorem n23 {n : Nat} (h : n ∈ [2, 3]) : n ∈ [2, 3, 4] := by simp at h ⊢; omega
theorem rule_tv {n : Nat} (hn : n ∈ [2, 3]) {r : Told} (hr : r ∈ rulesL n) : TV n r := by
  have e := rule_keys n hn r hr
  refine TV.mk' (n23 hn) (fun p hp => ?_) ?_
  · rw [← e]; exact List.mem_map_of_mem hp
  · rw [e]; exact lotsL_nd n (n23 hn)
theorem rule_some {n : Nat} (hn : n ∈ [2, 3]) {r : Told} (hr : r ∈ rulesL n) {l : Lot} (hl : l ∈ lotsL n) : ∃ a, tGet r l = some a := by
  cases h : tGet r l with
  | some a => exact ⟨a, rfl⟩
  | none => exact absurd (by rw [rule_keys n hn r hr]; exact hl) (tGet_none.mp h)
theorem rules24 : ∀ n ∈ [2, 3], (rulesL n).length ≤ 24 := by decide +kernel
theorem fine_sub {n : Nat} {t r : Told} (h : r ∈ fineL n t) : r ∈ rulesL n := (List.mem_filter.mp h).1
theorem good_sub {n : Nat} {t r : Told} (h : r ∈ goodL n t) : r ∈ rulesL n := fine_sub (List.mem_filter.mp h).1
theorem fine24 {n : Nat} (hn : n ∈ [2, 3]) (t : Told) : (fineL n t).length ≤ 24 := Nat.le_trans (List.length_filter_le _ _) (rules24 n hn)
theorem good24 {n : Nat} (hn : n ∈ [2, 3]) (t : Told) : (goodL n t).length ≤ 24 := Nat.le_trans (List.length_filter_le _ _) (fine24 hn t)
theorem some_sub {n : Nat} {t r : Told} (h : r ∈ someL n t) : r ∈ rulesL n := by
  rcases List.mem_append.mp h with z | z
  · exact fine_sub (List.mem_of_mem_take z)
  · exact good_sub (List.mem_of_mem_take z)
theorem some3 (n : Nat) (t : Told) : (someL n t).length ≤ 3 := by
  unfold someL
  rw [List.length_append, List.length_take, List.length_take]
  omega
theorem dget_kvR (l : Lot) (r : Told) : dGet (r.map kvR) l = (tGet r l).map fun a => dI [a] := by
  induction r with
  | nil => rfl
  | cons p r ih =>
    unfold dGet tGet at ih ⊢
    rw [List.map_cons, List.find?_cons, List.find?_cons]
    by_cases h : p.1 = l
    · simp [h]
    · simp only [h, decide_false]
      exact ih
theorem eqv_eR (p q : Lot × Int) : PyData.eqv (eR p) (eR q) = decide (p = q) := by
  rw [PyData.eqv, PyData.eqvAll, PyData.eqvAll, PyData.eqvAll, eqv_dI, eqv_dI]
  obtain ⟨l, a⟩ := p
  obtain ⟨m, b⟩ := q
  by_cases h1 : l = m <;> by_cases h2 : a = b <;> simp [h1, h2]
theorem eqv_rule : ∀ r r' : Told, PyData.eqvAll (r.map eR) (r'.map eR) = decide (r = r')
  | [], [] => rfl
  | [], _ :: _ => rfl
  | _ :: _, [] => rfl
  | p :: r, q :: r' => by
    rw [List.map_cons, List.map_cons, PyData.eqvAll, eqv_eR, eqv_rule r r']
    by_cases h1 : p = q <;> by_cases h2 : r = r' <;> simp [h1, h2]
theorem lay_eR (p : Lot × Int) : (eR p).canLay0 = true := by rw [PyData.canLay0, PyData.canLayAll0, PyData.canLayAll0, PyData.canLayAll0, lay_dI, lay_dI]; rfl
theorem dep_eR (p : Lot × Int) : (eR p).depth = 2 := by rw [PyData.depth, PyData.depthAll, PyData.depthAll, PyData.depthAll, dep_dI, dep_dI]; rfl
abbrev tR (r : Told) : PyData := .tuple (r.map eR)
theorem lay_tR (r : Told) : (tR r).canLay0 = true := by rw [PyData.canLay0, lays_map r fun p _ => lay_eR p]
theorem dep_tR (r : Told) : (tR r).depth ≤ 3 := by
  rw [PyData.depth]
  have := deps_map (n := 2) r fun p _ => Nat.le_of_eq (dep_eR p)
  omega
theorem sh_tR (r : Told) : SeqAt.shaped (tR r) = true := by
  unfold SeqAt.shaped
  rw [lay_tR, decide_eq_true (by have := dep_tR r; omega)]
  rfl
theorem sh_tRs (rs : List Told) : SeqAt.shaped (.list (rs.map tR)) = true := sh_list rs (fun r _ => lay_tR r) fun r _ => by have := dep_tR r; omega
theorem any_rule (rs : List Told) (r : Told) : ((rs.map tR).any fun z => PyData.eqv z (tR r)) = decide (r ∈ rs) := by
  induction rs with
  | nil => simp
  | cons x rs ih =>
    rw [List.map_cons, List.any_cons, ih, PyData.eqv, eqv_rule]
    by_cases h1 : x = r
    · subst h1; simp
    · have h2 : ¬ r = x := fun z => h1 z.symm
      by_cases h3 : r ∈ rs <;> simp [h1, h2, h3]
/-- a list of tuples known whole is a list of tuples -/
theorem RpAll.wholes {F : Hp} : ∀ {xs : List V} {rs : List Told}, RpAll F xs (rs.map eRule) → RpAll F xs (rs.map tR)
  | _, [], h => by cases h; exact .nil
  | _, r :: rs, h => by
    cases h with
    | cons h1 h2 => exact .cons (h1.whole (nk_NK (nk_eR r))) (RpAll.wholes h2)
theorem dwhL {X : Cx} {e : Expr} {B : Bs} {ρ : List Sl} {rs : List Told} (h : PE X e (tV X.w B ρ (.pu (.list (rs.map eRule))))) : PE X e (tV X.w B ρ (.pu (.list (rs.map tR)))) :=
  weakE h fun σ H Q ⟨F, a, k⟩ => ⟨F, a, fun v F' H' g o => k v F' H' g (by
    obtain ⟨a, xs, ev, ha, r⟩ := Rp.list_inv o
    rw [ev]
    exact .lst ha r.wholes)⟩
theorem ekr (r : Told) : (r.map kvR).map dKV = r.map eR := by rw [List.map_map]; rfl
theorem minL_is : ∀ {ns : List Int}, ns ≠ [] → isMin ns (minL ns)
  | [], h => absurd rfl h
  | x :: xs, _ => by
    have go : ∀ (xs : List Int) (x : Int), (xs.foldl min x = x ∨ xs.foldl min x ∈ xs) ∧ xs.foldl min x ≤ x ∧ ∀ y ∈ xs, xs.foldl min x ≤ y := by
      intro xs
      induction xs with
      | nil => intro x; exact ⟨.inl rfl, Int.le_refl _, fun _ h => nomatch h⟩
      | cons y xs ih =>
        intro x
        obtain ⟨h1, h2, h3⟩ := ih (min x y)
        rw [List.foldl_cons]
        refine ⟨?_, by omega, fun z hz => ?_⟩
        · rcases h1 with z | z
          · rw [z]
            by_cases hxy : y ≤ x
            · right; rw [show min x y = y by omega]; exact List.mem_cons_self
            · left; omega
          · exact .inr (List.mem_cons_of_mem _ z)
        · rcases List.mem_cons.mp hz with e | e
          · rw [e]; omega
          · exact h3 z e
    obtain ⟨h1, h2, h3⟩ := go xs x
    refine ⟨?_, fun y hy => ?_⟩
    · rcases h1 with z | z
      · show xs.foldl min x ∈ x :: xs
        rw [z]; exact List.mem_cons_self
      · exact List.mem_cons_of_mem _ z
    · rcases List.mem_cons.mp hy with e | e
      · rw [e]; exact h2
      · exact h3 y e
theorem filter_take {α : Type} (p : α → Bool) {l : List α} {j : Nat} {x : α} (h : l[j]? = some x) : (l.take (j + 1)).filter p = if p x = true then (l.take j).filter p ++ [x] else (l.take j).filter p := by
  rw [List.take_add_one, h, List.filter_append, show (some x).toList = [x] from rfl, List.filter_cons]
  split
  · rfl
  · rw [List.filter_nil, List.append_nil]
end GY
namespace GY
open PySem PySem.Spec PyProof.Rows L2 PySem.W

/-! ## _law_small_right -/
def Sp_law_small_right (ss : List Sl) (s : Sl) : Prop := ∃ (n : Nat) (t : Told), n ∈ [2, 3] ∧ TQ (lotsL n) t ∧ ss = [.pu (.int n), .pu (xD (t.map eP))] ∧ s = .pu (.bool true)
structure Small (n : Nat) (t : Told) : Prop where
  fit : (someL n t).map (fitsL t) = (someL n t).map fun _ => true
  wid : (someL n t).map (fun r => decide (widthL n r = 1)) = (someL n t).map fun r => decide (r ∈ goodL n t)
  ord : (goodL n t).isEmpty = (ordersT n t).isEmpty
  many : W t n (fullL n) = ((goodL n t).length : Int)
  sure : (goodL n t).isEmpty = false → sortT n (sureL n t) = sureM n t
  ask : 1 < (goodL n t).length → asks n t ≠ [] ∧ asksM n t ≠ [] ∧ bestL (asks n t) = bestL (asksM n t)
theorem small_of {n : Nat} {t : Told} (hn : n ∈ [2, 3]) (ht : TQ (lotsL n) t) : Small n t := by
  have h := small_all n hn t (toldsR_mem _ _ ht.sub ht.pick)
  unfold smallB at h
  simp only [Bool.and_eq_true, Bool.or_eq_true, decide_eq_true_eq, Bool.not_eq_true'] at h
  obtain ⟨⟨⟨⟨⟨h1, h2⟩, h3⟩, h4⟩, h5⟩, h6⟩ := h
  refine ⟨h1, h2, h3, h4, fun z => ?_, fun z => ?_⟩
  · rcases h5 with h5 | h5
    · rw [z] at h5; cases h5
    · exact h5
  · rcases h6 with h6 | ⟨⟨h6, h7⟩, h8⟩
    · omega
    · refine ⟨fun e => ?_, fun e => ?_, h8⟩
      · rw [e] at h6; cases h6
      · rw [e] at h7; cases h7
theorem bestE_mem : ∀ (xs : List (Int × Lot)) (x : Int × Lot), bestE x xs ∈ x :: xs
  | [], x => List.mem_cons_self
  | y :: xs, x => by
    unfold bestE
    rw [List.foldl_cons]
    by_cases h : dataLt (eN y) (eN x) = true
    · rw [if_pos h]
      exact List.mem_cons_of_mem _ (bestE_mem xs y)
    · rw [if_neg h]
      rcases List.mem_cons.mp (bestE_mem xs x) with z | z
      · show bestE x xs ∈ _
        rw [z]; exact List.mem_cons_self
      · exact List.mem_cons_of_mem _ (List.mem_cons_of_mem _ z)
section
variable {P : Program} {w : World} {K : PySem.W.Frag} {mg : Str → Option Value} {base : Heap} {f C : Addr} {fd : FuncData} {k : Nat}
theorem ok_law_small_right (M : Mg mg) (Gall : Cal P w K mg base CX0 k "_law_all_rules" ["_law_m"] (spS w Sp_law_all_rules)) (Gord : Cal P w K mg base CX0 k "_law_orders" ["_law_m"] (spS w Sp_law_orders)) (Ggo : Cal P w K mg base CX0 k "_law_goes" ["_law_rule", "_law_order"] (spS w Sp_law_goes))
    (Gfit : Cal P w K mg base CX0 k "fits" ["told", "rule"] (spS w Sp_fits)) (Gwid : Cal P w K mg base CX0 k "width" ["rule"] (spS w Sp_width)) (Gsame : Cal P w K mg base CX0 k "_law_same" ["_law_got", "_law_goal"] (spS w (Sp_law_same 6))) (Glot : Cal P w K mg base CX0 k "_law_lots" ["_law_m", "_law_least"] (spS w Sp_law_lots))
    (Ghe : Cal P w K mg base CX0 k "_law_heard" ["_law_door", "_law_m", "_law_told_here"] (spS w Sp_law_heard)) (Gma : Cal P w K mg base CX0 k "goods_many" ["m", "told"] (spS w Sp_goods_many)) (F : Fun K "_law_small_right" "_law_small_right" s_law_small_right f fd) :
    FnOk P w K mg base CX0 (k + 1) f fd ["_law_m", "_law_told_here"] (spS w Sp_law_small_right) := by
  refine okD F sc_law_small_right (fun ss s ⟨n, t, _, _, e, _⟩ => by rw [e]; exact ⟨rfl, no2⟩) (fun cdv A outer sh H E B ss s hr ⟨n, t, hn2, htq, e, es⟩ => ?_)
  subst e es
  have hn := n23 hn2
  have htv := htq.tv hn
  have htl := htv.len
  have SM := small_of hn2 htq
  have h24 := rules24 n hn2
  have hlot : ∀ p ∈ t, p.1 ∈ lotsL n := htv.lot
  have kk : ∀ r ∈ rulesL n, (∀ kv ∈ r.map kvR, kv.1 ≠ []) ∧ ((r.map kvR).map (·.1)).Nodup ∧ (r.map kvR).length ≤ 1000 := fun r hrr => by
    have htr := rule_tv hn2 hrr
    refine ⟨fun kv hkv => ?_, ?_, ?_⟩
    · obtain ⟨p, hp, rfl⟩ := List.mem_map.mp hkv
      exact (lots_ne n hn _ (htr.lot p hp)).1
    · rw [List.map_map]; exact htr.nd
    · rw [List.length_map]; have := htr.len; omega
  have kt : (∀ kv ∈ t.map kvP, kv.1 ≠ []) ∧ ((t.map kvP).map (·.1)).Nodup ∧ (t.map kvP).length ≤ 1000 := ⟨htv.keys hn, htv.knd, htv.klen⟩
  -- fine
  refine hs_then (hs_setLc1 (α := Told) 2 3 eRule (fitB t) eRule (xs := rulesL n) sc_law_small_right.nd (iseq (dV (dcall Gall hr (acons (dvar 0) anil) ⟨n, hn2, rfl, rfl⟩)))
    (fun r hrr => pts_one (deqP (tC (ceqD hr (dfz (dlc2 (α := Lot × Int) 4 5 eP (fun p => dI p.1) (fun p => .int p.2) (fun p => !decide (tGet r p.1 = some p.2)) (fun _ => .int 1) sc_law_small_right.nd (iseq (dwh (dvar 1) (NK_eP t))) (fun _ _ => rfl) (fun p hp => ?_) (fun _ _ _ => dint) (by omega))) (dlst (ds := []) anil) (sh_ones _) sh_nil)) (eqv_nil1 _)))
    (fun r _ _ => dvar 3) (by omega)) ?_
  · obtain ⟨x, hx⟩ := rule_some hn2 hrr (hlot p hp)
    refine pts_one (deqP (tC (cneD hr (dget' hr (dV (ddict (kvs := r.map kvR) hr rfl M.dict_ (deqT (dvar 3) (by rw [ekr])) (kk r hrr).1 (kk r hrr).2.1 (kk r hrr).2.2)) (dkey (dvar 4) (lots_ne n hn _ (hlot p hp)).1) (by rw [dget_kvR, hx]; rfl)) (dtup (ds := [.int p.2]) (acons (dvar 5) anil) (hl := by simp)) (sh_dI [x]) (sh_dI [p.2]))) ?_)
    show (!PyData.eqv (dI [x]) (dI [p.2])) = _
    rw [eqv_dI [x] [p.2], hx]
    by_cases h : x = p.2 <;> simp [h]
  refine hs_frz 2 (ds := (fineL n t).map eRule) rfl ?_
  -- goods
  refine hs_then (hs_set 6 (dN (deqT (s' := .pu (.list ((goodL n t).map eRule))) (dfz (dlc1 (α := Told) 3 eRule (goodR n) eRule (xs := fineL n t) sc_law_small_right.nd (iseq (dvar 2))
    (fun r hrr => pts_one (deqP (tC (cneD hr (dfz (dlc1 (α := Lot) 7 dI (goesL r) (fun _ => .int 1) (xs := ordersL n) sc_law_small_right.nd (iseq (dV (dcall Gord hr (acons (dvar 0) anil) ⟨n, hn, rfl, rfl⟩))) (fun o ho => pts_one (tcmp (dV (dcall Ggo hr (acons (dwh (dvar 3) (nk_NK (nk_eR r))) (acons (dvar 7) anil)) ⟨n, r, o, hn, rfl, rule_tv hn2 (fine_sub hrr), ho, rfl⟩)))) (fun _ _ _ => dint) (by have := (orders_ne n hn).2; omega))) (dlst (ds := []) anil) (sh_ones _) sh_nil)) (by rw [eqv_nil1]; rfl)))
    (fun r _ _ => dvar 3) (by have := fine24 hn2 t; omega))) rfl)) sc_law_small_right.nd) ?_
  -- some
  have hgl := good24 hn2 t
  have hfl := fine24 hn2 t
  have hsl := some3 n t
  have c2 : cutD ((fineL n t).map eRule) none (some 2) = ((fineL n t).take 2).map eRule := cutT eRule (fineL n t) 2
  have c1 : cutD ((goodL n t).map eRule) none (some 1) = ((goodL n t).take 1).map eRule := cutT eRule (goodL n t) 1
  refine hs_then (hs_set 8 (dN (deqT (s' := .pu (.list ((someL n t).map eRule))) (dcat (deqT (dsliceL (dvar 2) onone (osome dint)) (by rw [c2])) (deqT (dsliceL (dvar 6) onone (osome dint)) (by rw [c1])) ?_) ?_)) sc_law_small_right.nd) ?_
  · rw [List.length_map, List.length_map, List.length_take, List.length_take]; omega
  · rw [← List.map_append]; rfl
  -- fits, width
  have hfit : ∀ r ∈ someL n t, Sp_fits [.pu (xD (t.map eP)), .pu (eRule r)] (.pu (.bool (fitsL t r))) → True := fun _ _ _ => trivial
  let dd : PyData := .list [.list ((someL n t).map fun _ => .bool true), .list ((someL n t).map fun r => .bool (decide (r ∈ goodL n t)))]
  have sdd : SD 6 dd := SD_list (by simp) (SD_mem2 (SD_list (by rw [List.length_map]; omega) (SD_map fun _ _ => SD_bool _ _)) (SD_list (by rw [List.length_map]; omega) (SD_map fun _ _ => SD_bool _ _)))
  have w1 : ((someL n t).map fun r => PyData.bool (fitsL t r)) = (someL n t).map fun _ => PyData.bool true := by
    have := congrArg (List.map PyData.bool) SM.fit
    rw [List.map_map, List.map_map] at this
    exact this
  have w2 : ((someL n t).map fun r => PyData.bool (decide (widthL n r = 1))) = (someL n t).map fun r => PyData.bool (decide (r ∈ goodL n t)) := by
    have := congrArg (List.map PyData.bool) SM.wid
    rw [List.map_map, List.map_map] at this
    exact this
  have w3 : (List.replicate ((((someL n t).map eRule).length : Nat) : Int).toNat [PyData.bool true]).flatten = (someL n t).map fun _ => PyData.bool true := by
    rw [Int.toNat_natCast, List.length_map]
    generalize someL n t = l
    induction l with
    | nil => rfl
    | cons x l ih => rw [List.length_cons, List.replicate_succ, List.flatten_cons, ih]; rfl
  refine hs_then (hs_if (b := false) (tnot (b := true) (tcmp (dV (dcall (ss := [.pu dd, .pu dd]) Gsame hr (acons (deqT (dlst (ds := [.list ((someL n t).map fun r => .bool (fitsL t r)), .list ((someL n t).map fun r => .bool (decide (widthL n r = 1)))]) (acons (deqT (dfz (dlc1 (α := Told) 3 eRule (fun _ => true) (fun r => .bool (fitsL t r)) (xs := someL n t) sc_law_small_right.nd (iseq (dvar 8)) (fun _ _ => pts0) (fun r hrr _ => dV (dcall Gfit hr (acons (dwh (dvar 1) (NK_eP t)) (acons (dwh (dvar 3) (nk_NK (nk_eR r))) anil)) ⟨_, _, n, t, r, hn, rfl, TD_tuple (htv.ts hn), ?_, htv, rule_tv hn2 (some_sub hrr), fun p hp => ?_, rfl⟩)) (by omega))) (by rw [filt_true]))
      (acons (deqT (dfz (dlc1 (α := Told) 3 eRule (fun _ => true) (fun r => .bool (decide (widthL n r = 1))) (xs := someL n t) sc_law_small_right.nd (iseq (dvar 8)) (fun _ _ => pts0) (fun r hrr _ => dC (ceqI (dV (dcall Gwid hr (acons (dwh (dvar 3) (nk_NK (nk_eR r))) anil) ⟨n, r, hn2, some_sub hrr, rfl, rfl⟩)) dint)) (by omega))) (by rw [filt_true])) anil)) (hl := by simp)) (by rw [w1, w2]))
      (acons (dlst (ds := [.list ((someL n t).map fun _ => .bool true), .list ((someL n t).map fun r => .bool (decide (r ∈ goodL n t)))]) (acons (deqT (drep (dlst (ds := [.bool true]) (acons dbl anil) (hl := by simp)) (dlen M.len_ (dvar 8)) (by rw [List.length_map]; omega) (by rw [List.length_map]; simp; omega)) (by rw [w3]))
        (acons (deqT (dfz (dlc1 (α := Told) 3 eRule (fun _ => true) (fun r => .bool (decide (r ∈ goodL n t))) (xs := someL n t) sc_law_small_right.nd (iseq (dvar 8)) (fun _ _ => pts0) (fun r hrr _ => deqT (dC (cinD hr (dwh (dvar 3) (nk_NK (nk_eR r))) (dwhL (dvar 6)) (sh_tR r) (sh_tRs _))) (by rw [any_rule])) (by omega))) (by rw [filt_true])) anil)) (hl := by simp)) anil)) ⟨dd, rfl, sdd, rfl⟩)))) (fun z => by cases z) fun _ => hs_nil) ?_
  · exact .inr ⟨_, _, .inr rfl, rfl, by rw [List.length_map]; have := (rule_tv hn2 (some_sub hrr)).len; omega, paired_map fun p hp => .inr ⟨_, _, .inr rfl, rfl, by simp, .cons (TO_lot 0 (.inr rfl) (by have := (lots_ne n hn _ ((rule_tv hn2 (some_sub hrr)).lot p hp)).2.1; omega)) (.cons (TO_lot (l := [p.2]) 0 (.inr rfl) (by simp)) .nil)⟩⟩
  · obtain ⟨x, hx⟩ := rule_some hn2 (some_sub hrr) (hlot p hp)
    rw [hx]; rfl
  -- the loop
  let sj : Nat → Told := fun j => (((lotsL n).take j).filter (sureB n t)).map fun l => (l, (pickL n t l).headD 0)
  let aj : Nat → List (Int × Lot) := fun j => (((lotsL n).take j).filter fun l => !(tGet t l).isSome).map fun l => (maxL (l.map fun a => ((pickL n t l).count a : Int)), l)
  have hll := lotsL_len n hn
  have hsj : ∀ j, (sj j).length ≤ 20 := fun j => by
    show ((((lotsL n).take j).filter (sureB n t)).map _).length ≤ 20
    rw [List.length_map]
    refine Nat.le_trans (List.length_filter_le _ _) ?_
    rw [List.length_take]; omega
  have haj : ∀ j, (aj j).length ≤ 20 := fun j => by
    show ((((lotsL n).take j).filter _).map _).length ≤ 20
    rw [List.length_map]
    refine Nat.le_trans (List.length_filter_le _ _) ?_
    rw [List.length_take]; omega
  refine hs_then (hs_par 9 10 (s1 := .ol []) (s2 := .ol []) (dlstN (ds := []) anil) (dlstN (ds := []) anil) rfl sc_law_small_right.nd) ?_
  refine hs_then (hs_forT (α := Lot) 4 dI (fun j => [.pu (.int n), .pu (xD (t.map eP)), .pu (.list ((fineL n t).map eRule)), .un, .un, .un, .pu (.list ((goodL n t).map eRule)), .un, .pu (.list ((someL n t).map eRule)), .ol ((sj j).map eP), .ol ((aj j).map eN), .un, .un, .un]) (xs := lotsL n) sc_law_small_right.nd PassesOwn.never (iseq (dfz (dcall Glot hr (acons (dvar 0) (acons dint anil)) ⟨n, hn, rfl, rfl⟩))) rfl fun j l hl => ?_) ?_
  · have hlm := List.mem_of_getElem? hl
    obtain ⟨hne, hl4, hl2⟩ := lots_ne n hn l hlm
    refine hs_then (hs_set 11 (dN (deqT (s' := .pu (.list ((pickL n t l).map .int))) (dfz (dlc1 (α := Told) 3 eRule (fun _ => true) (fun r => .int ((tGet r l).getD 0)) (xs := goodL n t) sc_law_small_right.nd (iseq (dvar 6)) (fun _ _ => pts0) (fun r hrr _ => ?_) (by omega))) (by rw [filt_true]; unfold pickL; rw [List.map_map]; rfl))) sc_law_small_right.nd) ?_
    · obtain ⟨x, hx⟩ := rule_some hn2 (good_sub hrr) hlm
      rw [hx]
      exact dixd (ds := [.int x]) (dget' hr (dV (ddict (kvs := r.map kvR) hr rfl M.dict_ (deqT (dvar 3) (by rw [ekr])) (kk r (good_sub hrr)).1 (kk r (good_sub hrr)).2.1 (kk r (good_sub hrr)).2.2)) (dkey (dvar 4) hne) (by rw [dget_kvR, hx]; rfl)) dint rfl
    have hpl : (pickL n t l).length ≤ 24 := by unfold pickL; rw [List.length_map]; exact hgl
    have shp : SeqAt.shaped (.list ((pickL n t l).map .int)) = true := sh_list _ (fun _ _ => by rw [PyData.canLay0]) fun _ _ => by rw [PyData.depth]; decide
    have es : sj (j + 1) = if sureB n t l = true then sj j ++ [(l, (pickL n t l).headD 0)] else sj j := by
      show (((lotsL n).take (j + 1)).filter (sureB n t)).map _ = _
      rw [filter_take _ hl]
      split
      · rw [List.map_append]; rfl
      · rfl
    have ea : aj (j + 1) = if (!(tGet t l).isSome) = true then aj j ++ [(maxL (l.map fun a => ((pickL n t l).count a : Int)), l)] else aj j := by
      show (((lotsL n).take (j + 1)).filter (fun l => !(tGet t l).isSome)).map _ = _
      rw [filter_take _ hl]
      split
      · rw [List.map_append]; rfl
      · rfl
    have hne' : (!(pickL n t l).isEmpty) = true → pickL n t l ≠ [] := fun h z => by rw [z] at h; cases h
    refine hs_then (ρ' := [.pu (.int n), .pu (xD (t.map eP)), .pu (.list ((fineL n t).map eRule)), .un, .pu (dI l), .un, .pu (.list ((goodL n t).map eRule)), .un, .pu (.list ((someL n t).map eRule)), .ol ((sj (j + 1)).map eP), .ol ((aj j).map eN), .pu (.list ((pickL n t l).map .int)), .un, .un]) (hs_if (b := sureB n t l) (PW.pt (tand2 (c := !(pickL n t l).isEmpty) (deqP (tC (cneD hr (dvar 11) (dlst (ds := []) anil) shp sh_nil)) (by rw [eqv_nil])) fun h => tand1 (tC (ceqI (dmin rfl M.min_ (dvar 11) (minL_is (hne' h))) (dmax rfl M.max_ (dvar 11) (maxL_is (hne' h))))))) (fun hb => ?_) fun hb => ?_) ?_
    · have hb1 : (!(pickL n t l).isEmpty) = true := by
        unfold sureB at hb
        rw [Bool.and_eq_true] at hb
        exact hb.1
      refine hss_post (hs_one (hs_append 9 (ds := (sj j).map eP) (d := eP (l, (pickL n t l).headD 0)) (dtup (ds := [dI l, .int ((pickL n t l).headD 0)]) (acons (dvar 4) (acons (dixd (ds := (pickL n t l).map .int) (dvar 11) dint (atI_head ?_)) anil)) (hl := by simp)) (by rw [List.length_map]; have := hsj j; omega))) fun ρ' e => ?_
      · cases hp : pickL n t l with
        | nil => exact absurd hp (hne' hb1)
        | cons _ _ => rfl
      · rw [e, es, if_pos hb, List.map_append]; rfl
    · refine hss_post hs_nil fun ρ' e => ?_
      rw [e, es, if_neg (by rw [hb]; exact Bool.false_ne_true)]; rfl
    · refine hs_one (hs_if (b := !(tGet t l).isSome) (deqP (tC (cdnin' hr (dkey (dvar 4) hne) (dV (ddict (kvs := t.map kvP) hr rfl M.dict_ (deqT (dvar 1) (by rw [ekv])) kt.1 kt.2.1 kt.2.2)))) (by rw [dget_kv]; cases tGet t l <;> rfl)) (fun hb => ?_) fun hb => ?_)
      · refine hss_post (hs_one (hs_append 10 (ds := (aj j).map eN) (d := eN (maxL (l.map fun a => ((pickL n t l).count a : Int)), l)) (dtup (ds := [.int (maxL (l.map fun a => ((pickL n t l).count a : Int))), dI l]) (acons (dmax rfl M.max_ (ns := l.map fun a => ((pickL n t l).count a : Int)) (deqT (dfz (dlc1 (α := Int) 5 PyData.int (fun _ => true) (fun a => .int ((pickL n t l).count a : Nat)) (xs := l) sc_law_small_right.nd (iseq (dvar 4)) (fun _ _ => pts0) (fun a _ _ => dcount (x := ("" : Str)) (dvar 11) (dvar 5)) (by omega))) (by rw [filt_true, List.map_map]; rfl)) (maxL_is (by
          intro z
          rw [List.map_eq_nil_iff] at z
          exact hne z))) (acons (dvar 4) anil)) (hl := by simp)) (by rw [List.length_map]; have := haj j; omega))) fun ρ' e => ?_
        subst e
        refine Up.to (ρ' := _) ?_ rfl
        rw [ea, if_pos hb, List.map_append]
        exact .keep (.keep (.keep (.keep (.drop (.keep (.keep (.keep (.keep (.keep (.keep (.drop (.keep (.keep .nil)))))))))))))
      · refine hss_post hs_nil fun ρ' e => ?_
        subst e
        refine Up.to (ρ' := _) ?_ rfl
        rw [ea, if_neg (by rw [hb]; exact Bool.false_ne_true)]
        exact .keep (.keep (.keep (.keep (.drop (.keep (.keep (.keep (.keep (.keep (.keep (.drop (.keep (.keep .nil)))))))))))))
  have esf : sj (lotsL n).length = sureM n t := by show (((lotsL n).take (lotsL n).length).filter (sureB n t)).map _ = _; rw [List.take_length]; rfl
  have eaf : aj (lotsL n).length = asksM n t := by show (((lotsL n).take (lotsL n).length).filter _).map _ = _; rw [List.take_length]; rfl
  have hsl1 := hsj (lotsL n).length
  have hal1 := haj (lotsL n).length
  rw [esf] at hsl1 ⊢
  rw [eaf] at hal1 ⊢
  -- what is due, what is got
  have shg : SeqAt.shaped (.list ((goodL n t).map tR)) = true := sh_tRs _
  have eoq : (ordersT n t = []) ↔ (goodL n t = []) := by
    have := SM.ord
    rw [← List.isEmpty_iff, ← List.isEmpty_iff, this]
  have fin : ∀ (a b : PyData), SD 5 a → SD 5 b → Sp_law_heard [.pu (.int 0), .pu (.int n), .pu (.tuple (t.map eP))] (.pu a) → Sp_law_heard [.pu (.int 2), .pu (.int n), .pu (.tuple (t.map eP))] (.pu b) →
      ∀ ρ1 : List Sl, ρ1 = [.pu (.int n), .pu (xD (t.map eP)), .pu (.list ((fineL n t).map eRule)), .un, .un, .un, .pu (.list ((goodL n t).map eRule)), .un, .pu (.list ((someL n t).map eRule)), .ol ((sureM n t).map eP), .ol ((asksM n t).map eN), .un, .pu (.list [a, b]), .un] →
      PSs (cxOf CX0 P w K mg base n_law_small_right "_law_small_right" (defScope s_law_small_right) f cdv A outer sh H E).nox ((defBody s_law_small_right).drop 7) (tH w B ρ1 (fun _ => False) (fun s' _ => s' = .pu (.bool true))) := fun a b sa sb ha hb ρ1 e1 => by
    subst e1
    refine hs_then (hs_set 13 (dN (dlst (ds := [a, b]) (acons (dV (dcall Ghe hr (acons dint (acons (dvar 0) (acons (dwh (dvar 1) (NK_eP t)) anil))) ha)) (acons (dV (dcall Ghe hr (acons dint (acons (dvar 0) (acons (dwh (dvar 1) (NK_eP t)) anil))) hb)) anil)) (hl := by simp))) sc_law_small_right.nd) ?_
    have sd : SD 6 (.list [a, b, .int ((goodL n t).length : Int)]) := SD_list (by simp) fun e he => by
      rcases List.mem_cons.mp he with z | z
      · rw [z]; exact sa
      · exact SD_mem2 sb (SD_int _ _) e z
    exact hs_one (hs_ret (dcall (ss := [.pu (.list [a, b, .int ((goodL n t).length : Int)]), .pu (.list [a, b, .int ((goodL n t).length : Int)])]) Gsame hr (acons (dcat (ds := [a, b]) (es := [.int ((goodL n t).length : Int)]) (dvar 13) (dlst (acons (deqT (dV (dcall Gma hr (acons (dvar 0) (acons (dwh (dvar 1) (NK_eP t)) anil)) ⟨n, _, t, hn, rfl, TD_tuple (htv.ts hn), htv, rfl⟩)) (by rw [← SM.many]; rfl)) anil) (hl := by simp)) (by simp))
      (acons (dcat (ds := [a, b]) (es := [.int ((goodL n t).length : Int)]) (dvar 12) (dlst (acons (deqT (dlen M.len_ (dvar 6)) (by rw [List.length_map])) anil) (hl := by simp)) (by simp)) anil)) ⟨_, rfl, sd, rfl⟩) rfl)
  by_cases hg : goodL n t = []
  · refine hs_then (hs_set 12 (dN (dif (c := false) (deqP (tC (cneD hr (dwhL (dvar 6)) (dlst (ds := []) anil) shg sh_nil)) (by rw [eqv_nil, hg]; rfl)) (fun z => by cases z) fun _ => drep (dlst (ds := [cannotD]) (acons (dlst (ds := [.str "cannot"]) (acons dstr anil)) anil) (hl := by simp)) dint (by omega) (by simp))) sc_law_small_right.nd) ?_
    exact fin cannotD cannotD (SD_cannot 4) (SD_cannot 4) ⟨0, _, _, rfl, .inl ⟨rfl, .inr ⟨⟨n, _, t, hn, rfl, TD_tuple (htv.ts hn), htv, eoq.mpr hg⟩, rfl⟩⟩⟩ ⟨2, _, _, rfl, .inr (.inr ⟨rfl, .inr ⟨⟨n, _, t, hn, rfl, TD_tuple (htv.ts hn), htv, by rw [SM.many, hg]; rfl⟩, rfl⟩⟩)⟩ _ rfl
  · have hgne : (goodL n t).isEmpty = false := by cases h : goodL n t with
      | nil => exact absurd h hg
      | cons _ _ => rfl
    have hgpos : 0 < (goodL n t).length := List.length_pos_iff.mpr hg
    let b : PyData := if 1 < (goodL n t).length then dI (bestL (asksM n t)) else .none
    have hasks : 1 < (goodL n t).length → ∃ x xs, asksM n t = x :: xs := fun h => by
      obtain ⟨_, h2, _⟩ := SM.ask h
      cases hq : asksM n t with
      | nil => exact absurd hq h2
      | cons x xs => exact ⟨x, xs, rfl⟩
    refine hs_then (hs_set 12 (s := .pu (.list [.tuple ((sureM n t).map eP), b])) (dN (dif (c := true) (deqP (tC (cneD hr (dwhL (dvar 6)) (dlst (ds := []) anil) shg sh_nil)) (by rw [eqv_nil, hgne]; rfl)) (fun _ => dlst (ds := [.tuple ((sureM n t).map eP), b]) (acons (dtupleO M.tuple_ (dvar 9)) (acons (dif (c := decide ((1 : Int) < (((goodL n t).map eRule).length : Int))) (tC (cgt (dlen M.len_ (dvar 6)) dint)) (fun hb => ?_) fun hb => ?_) anil)) (hl := by simp)) fun z => by cases z)) sc_law_small_right.nd) ?_
    · have h1 : 1 < (goodL n t).length := by
        have := of_decide_eq_true hb
        rw [List.length_map] at this
        omega
      obtain ⟨x, xs, ex⟩ := hasks h1
      have eb : b = dI (bestE x xs).2 := by show (if _ then _ else _) = _; rw [if_pos h1, ex]; rfl
      rw [eb]
      exact dixd (ds := [.int (bestE x xs).1, dI (bestE x xs).2]) (dminD (d := eN x) (ds := xs.map eN) hr rfl M.min_ (deqT (dvar 10) (by rw [ex]; rfl)) (.inl rfl) (al_eN (x :: xs)) (dep_eNs (x :: xs)) (nX_eNs (x :: xs)) (minD_eN xs x)) dint rfl
    · have h1 : ¬ 1 < (goodL n t).length := by
        have := of_decide_eq_false hb
        rw [List.length_map] at this
        omega
      have eb : b = .none := by show (if _ then _ else _) = _; rw [if_neg h1]
      rw [eb]
      exact dnon
    · refine fin _ _ ?_ ?_ ⟨0, _, _, rfl, .inl ⟨rfl, .inl ⟨n, _, t, hn, rfl, TD_tuple (htv.ts hn), htv, fun z => hg (eoq.mp z), ?_⟩⟩⟩ ⟨2, _, _, rfl, .inr (.inr ⟨rfl, .inl ⟨n, _, t, hn, rfl, TD_tuple (htv.ts hn), htv, by rw [SM.many]; omega, ?_⟩⟩)⟩ _ rfl
      · refine SD_told 2 (by omega) fun p hp => ?_
        obtain ⟨l, hl, rfl⟩ := List.mem_map.mp hp
        have := (lots_ne n hn l (List.mem_filter.mp hl).1).2.1
        show l.length ≤ 1000
        omega
      · show SD 5 (if _ then _ else _)
        split
        · rename_i h1
          obtain ⟨x, xs, ex⟩ := hasks h1
          have hb := SM.ask h1
          refine SD_dI 4 ?_
          have hm := bestE_mem xs x
          rw [ex]
          rw [← ex] at hm
          obtain ⟨l, hl, e⟩ := List.mem_map.mp hm
          have := (lots_ne n hn l (List.mem_filter.mp hl).1).2.1
          show (bestE x xs).2.length ≤ 1000
          rw [← e]
          show l.length ≤ 1000
          omega
        · exact SD_none _
      · rw [SM.sure hgne]
      · rw [SM.many]
        by_cases h1 : 1 < (goodL n t).length
        · obtain ⟨h2, h3, h4⟩ := SM.ask h1
          refine .inr ⟨by omega, ?_⟩
          cases hq : asks n t with
          | nil => exact absurd hq h2
          | cons x xs =>
            refine ⟨x, xs, rfl, ?_⟩
            show Sl.pu (if _ then _ else _) = _
            rw [if_pos h1, ← h4, hq]
            rfl
        · refine .inl ⟨by omega, ?_⟩
          show Sl.pu (if _ then _ else _) = _
          rw [if_neg h1]
end
end GY
namespace GY
open PySem PySem.Spec PyProof.Rows L2 PySem.W

/-! ## _law_by_hand_right -/
def oneT : Told := [([0, 1], 1)]
def twoT : Told := [([0, 1], 1), ([1, 2], 2)]
def ringT : Told := [([0, 1], 1), ([0, 2], 0), ([1, 2], 2)]
def handT : List Told := [[], oneT, twoT, ringT]
theorem hand_tv : ∀ t ∈ handT, TV 3 t := fun t h => by
  have : (∀ t ∈ handT, t.length ≤ 20 ∧ (∀ p ∈ t, p.1 ∈ lotsL 3) ∧ (t.map (·.1)).Nodup) := by decide +kernel
  obtain ⟨h1, h2, h3⟩ := this t h
  exact ⟨h1, h2, h3⟩
theorem hand_facts : ordersT 3 oneT = [[0, 1, 2], [0, 2, 1], [2, 0, 1]] ∧ (handT.map fun t => W t 3 (fullL 3)) = [12, 6, 2, 0] ∧ sortT 3 (sureL 3 twoT) = [([0, 1], 1), ([0, 2], 2), ([1, 2], 2)] ∧ ordersT 3 twoT ≠ [] ∧ barL 3 ringT = some [0, 1, 2] ∧ barL 3 twoT = none ∧
    W twoT 3 (fullL 3) = 2 ∧ bestL (asks 3 twoT) = [0, 1, 2] ∧ asks 3 twoT ≠ [] ∧ isBarT ringT [0, 1, 2] = true ∧ isBarT ringT [0, 1] = false ∧ (rulesL 3).length = 24 ∧ (ordersL 4).length = 24 := by decide +kernel
section
variable {X : Cx} {e : Expr} {pos : Pos} {B : Bs} {ρ : List Sl} {R : Sl → List Sl → Prop} {d1 d2 d3 : PyData}
/-- x, y, z = e, e a tuple that is made first -/
theorem hs_unp3 (i l q : Nat) {x y z : Str} {px py pz pt : Pos} {kt} (he : PE X e (tV X.w B ρ (.pu (.tuple [d1, d2, d3])))) (hN : X.N.Nodup)
    (hi : X.N[i]? = some x := by rfl) (hl : X.N[l]? = some y := by rfl) (hq : X.N[q]? = some z := by rfl)
    (hx : Loc X.env.scope x := by first | exact Or.inl rfl | exact Or.inr rfl) (hy : Loc X.env.scope y := by first | exact Or.inl rfl | exact Or.inr rfl) (hz : Loc X.env.scope z := by first | exact Or.inl rfl | exact Or.inr rfl)
    (fx : X.fn x = true ∨ X.env.scope.names.lookup x = some .local := by first | exact .inl rfl | exact .inr rfl) (fy : X.fn y = true ∨ X.env.scope.names.lookup y = some .local := by first | exact .inl rfl | exact .inr rfl) (fz : X.fn z = true ∨ X.env.scope.names.lookup z = some .local := by first | exact .inl rfl | exact .inr rfl)
    (hpg : ∀ {t : TGs}, PGs X [.Name x px, .Name y py, .Name z pz] t → PG X (.Tuple [.Name x px, .Name y py, .Name z pz] kt pt) (gTup X.K 3 t) := by intro _ h; exact pg_tup rfl h)
    (hw : swappedStores [.Tuple [.Name x px, .Name y py, .Name z pz] kt pt] e X.env = pure none := by rfl)
    (hs : swapsWithSole [.Tuple [.Name x px, .Name y py, .Name z pz] kt pt] e pos.line X.env = pure false := by rfl)
    (hA : (assignEach [.Tuple [.Name x px, .Name y py, .Name z pz] kt pt] X.env).map (·.2) = [assign (.Tuple [.Name x px, .Name y py, .Name z pz] kt pt) X.env] := by rfl) :
    PS X (.Assign [.Tuple [.Name x px, .Name y py, .Name z pz] kt pt] e pos) (tH X.w B ρ (· = ((ρ.set i (.pu d1)).set l (.pu d2)).set q (.pu d3)) R) :=
  weakS (ps_asg he (hpg (pgs_cons (pg_name hN hi hx fx) (pgs_cons (pg_name hN hl hy fy) (pgs_cons (pg_name hN hq hz fz) pgs_nil)))) hs hw hA) fun D σ H ⟨F, as, k, _⟩ => ⟨F, as, fun v F1 H1 g o => by
    obtain ⟨p, xs, ev, hp, r⟩ := Rp.tuple_inv o
    cases r with
    | cons r1 r =>
      cases r with
      | cons r2 r =>
        cases r with
        | cons r3 r =>
          cases r
          refine ⟨p, _, ev, sqt_rd (rdm g.fh hp), rfl, _, _, rfl, _, _, rfl, _, _, rfl, rfl, ?_⟩
          exact k F1 _ _ _ g.f rfl ((((as.grow g).set_pu r1).set_pu r2).set_pu r3)⟩
end
def Sp_law_by_hand_right (ss : List Sl) (s : Sl) : Prop := ss = [] ∧ s = .pu (.bool true)
section
variable {P : Program} {w : World} {K : PySem.W.Frag} {mg : Str → Option Value} {base : Heap} {f C : Addr} {fd : FuncData} {k : Nat}
theorem ok_law_by_hand_right (M : Mg mg) (Gor : Cal P w K mg base CX0 k "orders_told" ["m", "told"] (spS w Sp_orders_told)) (Gma : Cal P w K mg base CX0 k "goods_many" ["m", "told"] (spS w Sp_goods_many))
    (Gs : Cal P w K mg base (L2.CX P w) k "sure_picks" ["m", "told"] (spX w C Sp_sure_picks Rs_sure_picks)) (Gb : Cal P w K mg base (L2.CX P w) k "bar" ["m", "told"] (spX w C Sp_bar Rs_bar)) (Ga : Cal P w K mg base (L2.CX P w) k "best_ask" ["m", "told"] (spX w C Sp_best_ask Rs_best_ask))
    (Ghe : Cal P w K mg base CX0 k "_law_heard" ["_law_door", "_law_m", "_law_told_here"] (spS w Sp_law_heard)) (Gib : Cal P w K mg base CX0 k "is_bar" ["told", "thing"] (spS w Sp_is_bar)) (Gsame : Cal P w K mg base CX0 k "_law_same" ["_law_got", "_law_goal"] (spS w (Sp_law_same 6)))
    (Gall : Cal P w K mg base CX0 k "_law_all_rules" ["_law_m"] (spS w Sp_law_all_rules)) (Gord : Cal P w K mg base CX0 k "_law_orders" ["_law_m"] (spS w Sp_law_orders)) (F : Fun K "_law_by_hand_right" "_law_by_hand_right" s_law_by_hand_right f fd) :
    FnOk P w K mg base CX0 (k + 1) f fd [] (spS w Sp_law_by_hand_right) := by
  refine okD F sc_law_by_hand_right (fun ss s ⟨e, _⟩ => by rw [e]; exact ⟨rfl, fun s h => by cases h⟩) (fun cdv A outer sh H E B ss s hr ⟨e, es⟩ => ?_)
  subst e es
  obtain ⟨f1, f2, f3, f4, f5, f6, f7, f8, f8', f9, f10, f11, f12⟩ := hand_facts
  have h3 : 3 ∈ [2, 3, 4] := by simp
  have tv1 := hand_tv oneT (by simp [handT])
  have tv2 := hand_tv twoT (by simp [handT])
  have tvr := hand_tv ringT (by simp [handT])
  refine hs_then (hs_unp3 0 1 2 (d1 := .tuple (oneT.map eP)) (d2 := .tuple (twoT.map eP)) (d3 := .tuple (ringT.map eP)) (dtup (ds := [.tuple (oneT.map eP), .tuple (twoT.map eP), .tuple (ringT.map eP)]) ?_ (by simp)) sc_law_by_hand_right.nd) ?_
  · refine acons (dtup (ds := oneT.map eP) ?_ (by decide)) (acons (dtup (ds := twoT.map eP) ?_ (by decide)) (acons (dtup (ds := ringT.map eP) ?_ (by decide)) anil))
    · exact acons (dtup (ds := [dI [0, 1], .int 1]) (acons (dtup (ds := [.int 0, .int 1]) (acons dint (acons dint anil)) (by simp)) (acons dint anil)) (by simp)) anil
    · exact acons (dtup (ds := [dI [0, 1], .int 1]) (acons (dtup (ds := [.int 0, .int 1]) (acons dint (acons dint anil)) (by simp)) (acons dint anil)) (by simp)) (acons (dtup (ds := [dI [1, 2], .int 2]) (acons (dtup (ds := [.int 1, .int 2]) (acons dint (acons dint anil)) (by simp)) (acons dint anil)) (by simp)) anil)
    · exact acons (dtup (ds := [dI [0, 1], .int 1]) (acons (dtup (ds := [.int 0, .int 1]) (acons dint (acons dint anil)) (by simp)) (acons dint anil)) (by simp)) (acons (dtup (ds := [dI [0, 2], .int 0]) (acons (dtup (ds := [.int 0, .int 2]) (acons dint (acons dint anil)) (by simp)) (acons dint anil)) (by simp)) (acons (dtup (ds := [dI [1, 2], .int 2]) (acons (dtup (ds := [.int 1, .int 2]) (acons dint (acons dint anil)) (by simp)) (acons dint anil)) (by simp)) anil))
  let due : List PyData := [.list ([[0, 1, 2], [0, 2, 1], [2, 0, 1]].map dI), .list ([12, 6, 2, 0].map .int), .tuple (([([0, 1], 1), ([0, 2], 2), ([1, 2], 2)] : Told).map eP), dI [0, 1, 2], cannotD, dI [0, 1, 2], .bool true, .bool false]
  have tdo := TD_tuple (tv1.ts h3)
  have tdt := TD_tuple (tv2.ts h3)
  have tdr := TD_tuple (tvr.ts h3)
  refine hs_then (hs_set 3 (s := .pu (.list due)) (dN (dlst (ds := due) ?_ (by simp [due]))) sc_law_by_hand_right.nd) ?_
  · refine acons (deqT (dfz (dcall Gor hr (acons dint (acons (dvar 0) anil)) ⟨3, _, oneT, h3, rfl, tdo, tv1, rfl⟩)) (by rw [f1])) ?_
    refine acons (deqT (dfz (dlc1 (α := Told) 4 (fun t => .tuple (t.map eP)) (fun _ => true) (fun t => .int (W t 3 (fullL 3))) (xs := handT) sc_law_by_hand_right.nd (iseq (dtup (ds := handT.map fun t => .tuple (t.map eP)) (acons (dtup (ds := []) anil) (acons (dvar 0) (acons (dvar 1) (acons (dvar 2) anil)))) (by decide))) (fun _ _ => pts0) (fun t ht _ => dV (dcall Gma hr (acons dint (acons (dvar 4) anil)) ⟨3, _, t, h3, rfl, TD_tuple ((hand_tv t ht).ts h3), hand_tv t ht, rfl⟩)) (by decide))) (by rw [filt_true, ← f2, List.map_map]; rfl)) ?_
    refine acons (deqT (dV (dcallX Gs hr (acons dint (acons (dvar 1) anil)) ⟨3, _, twoT, h3, rfl, tdt, tv2, f4, rfl⟩)) (by rw [f3])) ?_
    refine acons (dV (dcallX Gb hr (acons dint (acons (dvar 2) anil)) ⟨3, _, ringT, _, h3, rfl, tdr, tvr, f5, rfl⟩)) ?_
    refine acons (dV (dcall Ghe hr (acons dint (acons dint (acons (dvar 1) anil))) ⟨1, _, _, rfl, .inr (.inl ⟨rfl, .inr ⟨⟨3, _, twoT, h3, rfl, tdt, tv2, f6⟩, rfl⟩⟩)⟩)) ?_
    refine acons (dV (dcallX Ga hr (acons dint (acons (dvar 1) anil)) ⟨3, _, twoT, h3, rfl, tdt, tv2, by rw [f7]; decide, .inr ⟨by rw [f7]; decide, ?_⟩⟩)) ?_
    · cases hq : asks 3 twoT with
      | nil => exact absurd hq f8'
      | cons x xs =>
        refine ⟨x, xs, rfl, ?_⟩
        rw [hq] at f8
        rw [← f8]; rfl
    refine acons (deqT (dV (dcall Gib hr (acons (dvar 2) (acons (dtup (ds := [.int 0, .int 1, .int 2]) (acons dint (acons dint (acons dint anil))) (by simp)) anil)) ⟨_, ringT, [0, 1, 2], tdr, tvr.ts h3, by simp, by simp, .inl ⟨rfl, rfl⟩⟩)) (by rw [f9])) ?_
    exact acons (deqT (dV (dcall Gib hr (acons (dvar 2) (acons (dtup (ds := [.int 0, .int 1]) (acons dint (acons dint anil)) (by simp)) anil)) ⟨_, ringT, [0, 1], tdr, tvr.ts h3, by simp, by simp, .inl ⟨rfl, rfl⟩⟩)) (by rw [f10])) anil
  refine hs_then (hs_set 5 (s := .pu (.list due)) (dN (dlst (ds := due) ?_ (by simp [due]))) sc_law_by_hand_right.nd) ?_
  · refine acons (dlst (acons (dtup (ds := [.int 0, .int 1, .int 2]) (acons dint (acons dint (acons dint anil))) (by simp)) (acons (dtup (ds := [.int 0, .int 2, .int 1]) (acons dint (acons dint (acons dint anil))) (by simp)) (acons (dtup (ds := [.int 2, .int 0, .int 1]) (acons dint (acons dint (acons dint anil))) (by simp)) anil))) (by simp)) ?_
    refine acons (dlst (acons dint (acons dint (acons dint (acons dint anil)))) (by simp)) ?_
    refine acons (dtup (acons (dtup (ds := [dI [0, 1], .int 1]) (acons (dtup (ds := [.int 0, .int 1]) (acons dint (acons dint anil)) (by simp)) (acons dint anil)) (by simp)) (acons (dtup (ds := [dI [0, 2], .int 2]) (acons (dtup (ds := [.int 0, .int 2]) (acons dint (acons dint anil)) (by simp)) (acons dint anil)) (by simp)) (acons (dtup (ds := [dI [1, 2], .int 2]) (acons (dtup (ds := [.int 1, .int 2]) (acons dint (acons dint anil)) (by simp)) (acons dint anil)) (by simp)) anil))) (by simp)) ?_
    refine acons (dtup (ds := [.int 0, .int 1, .int 2]) (acons dint (acons dint (acons dint anil))) (by simp)) ?_
    refine acons (dlst (ds := [.str "cannot"]) (acons dstr anil)) ?_
    refine acons (dtup (ds := [.int 0, .int 1, .int 2]) (acons dint (acons dint (acons dint anil))) (by simp)) ?_
    exact acons dbl (acons dbl anil)
  have sd : SD 6 (.list (due ++ [.int 24, .int 24])) := SD_list (by simp [due]) fun e he => by
    have h5 : ∀ e ∈ due, SD 5 e := fun e he => by
      simp only [due, List.mem_cons, List.not_mem_nil, or_false] at he
      rcases he with rfl | rfl | rfl | rfl | rfl | rfl | rfl | rfl
      · exact SD_lots 3 (by simp) (by simp)
      · exact SD_list (by simp) (SD_map fun _ _ => SD_int _ _)
      · exact SD_told 2 (by simp) (by simp)
      · exact SD_dI 4 (by simp)
      · exact SD_cannot 4
      · exact SD_dI 4 (by simp)
      · exact SD_bool _ _
      · exact SD_bool _ _
    rcases List.mem_append.mp he with z | z
    · exact h5 e z
    · exact SD_mem2 (SD_int _ _) (SD_int _ _) e z
  refine hs_one (hs_ret (dcall (ss := [.pu (.list (due ++ [.int 24, .int 24])), .pu (.list (due ++ [.int 24, .int 24]))]) Gsame hr (acons (dcat (ds := due) (es := [.int 24, .int 24]) (dvar 3) (dlst (ds := [.int 24, .int 24]) (acons (deqT (dlen M.len_ (dV (dcall Gall hr (acons dint anil) ⟨3, by simp, rfl, rfl⟩))) (by rw [List.length_map, f11]; rfl)) (acons (deqT (dlen M.len_ (dV (dcall Gord hr (acons dint anil) ⟨4, by simp, rfl, rfl⟩))) (by rw [List.length_map, f12]; rfl)) anil)) (by simp)) (by simp [due]))
    (acons (dcat (ds := due) (es := [.int 24, .int 24]) (dvar 5) (dlst (ds := [.int 24, .int 24]) (acons dint (acons dint anil)) (by simp)) (by simp [due])) anil)) ⟨_, rfl, sd, rfl⟩) rfl)
end
end GY
namespace GY
open PySem PySem.Spec PyProof.Rows L2 PySem.W

/-! ## plain facts for two to four areas -/
theorem isEmpty_filter_not {α : Type} (p : α → Bool) (l : List α) : (l.filter fun a => !p a).isEmpty = (l.map p).all id := by
  induction l with
  | nil => rfl
  | cons x l ih =>
    rw [List.filter_cons, List.map_cons, List.all_cons]
    cases h : p x with
    | true => rw [if_neg (by simp), ih]; rfl
    | false => rfl
def subB (whole l : Lot) : Bool := (l.map fun o => decide (o ∈ whole)).all id
theorem subB_iff {whole l : Lot} : subB whole l = true ↔ ∀ x ∈ l, x ∈ whole := by
  unfold subB
  rw [List.all_map, List.all_eq_true]
  simp
theorem liesIn_one (l o : Lot) : liesIn l [o] = subB o l := by
  unfold liesIn
  rw [List.map_cons, List.map_nil, List.any_cons, List.any_nil, Bool.or_false]
  rfl
theorem pickedB_eq (t : Told) (wh : Lot) : pickedB t wh = pickedL t wh := by
  unfold pickedB pickedL
  congr 1
  congr 1
  funext p
  rw [isEmpty_filter_not (fun a => decide (a ∈ wh)), liesIn_one]
  rfl
theorem barB_eq (t : Told) (wh : Lot) : barB t wh = isBarred t wh := by
  unfold barB isBarred
  rw [isEmpty_filter_not (fun a => decide (a ∈ pickedB t wh)), pickedB_eq]
  rfl
def okH (t : Told) (o : Lot) : Bool := (t.filter fun p => decide (p.2 = fI o p.1)).isEmpty
theorem okH_eq (t : Told) (o : Lot) : okH t o = okO t o := by
  unfold okH okO
  induction t with
  | nil => rfl
  | cons p t ih =>
    rw [List.filter_cons, List.map_cons, List.all_cons, ← ih]
    by_cases h : p.2 = fI o p.1
    · rw [if_pos (by simpa using h)]; simp [h]
    · have h' : ¬ fI o p.1 = p.2 := fun z => h z.symm
      rw [if_neg (by simpa using h)]; simp [h']
theorem okO_iff {t : Told} {o : Lot} : okO t o = true ↔ ∀ p ∈ t, fI o p.1 ≠ p.2 := by
  unfold okO
  rw [List.all_map, List.all_eq_true]
  simp
theorem fI_cons (a : Int) (o l : Lot) : fI (a :: o) l = if a ∈ l then a else fI o l := by
  unfold fI firstIn
  rw [List.filter_cons]
  by_cases h : a ∈ l
  · rw [if_pos (by simpa using h), if_pos h]; rfl
  · rw [if_neg (by simpa using h), if_neg h]
/-! ### sums and products -/
def sm {α : Type} (f : α → Int) : List α → Int
  | [] => 0
  | x :: l => f x + sm f l
theorem sm_append {α : Type} (f : α → Int) : ∀ a b : List α, sm f (a ++ b) = sm f a + sm f b
  | [], b => by rw [List.nil_append, sm]; omega
  | x :: a, b => by rw [List.cons_append, sm, sm, sm_append f a b]; omega
theorem sm_flatMap {α β : Type} (f : β → Int) (g : α → List β) : ∀ l : List α, sm f (l.flatMap g) = sm (fun x => sm f (g x)) l
  | [] => rfl
  | x :: l => by rw [List.flatMap_cons, sm_append, sm_flatMap f g l, sm]
theorem sm_map {α β : Type} (f : β → Int) (g : α → β) : ∀ l : List α, sm f (l.map g) = sm (fun x => f (g x)) l
  | [] => rfl
  | x :: l => by rw [List.map_cons, sm, sm, sm_map f g l]
theorem sm_mul {α : Type} (c : Int) (f : α → Int) : ∀ l : List α, sm (fun x => c * f x) l = c * sm f l
  | [] => by rw [sm, sm, Int.mul_zero]
  | x :: l => by rw [sm, sm, sm_mul c f l, Int.mul_add]
theorem sm_congr {α : Type} {f g : α → Int} : ∀ {l : List α}, (∀ x ∈ l, f x = g x) → sm f l = sm g l
  | [], _ => rfl
  | x :: l, h => by rw [sm, sm, h x List.mem_cons_self, sm_congr fun y hy => h y (List.mem_cons_of_mem _ hy)]
theorem sm_count {α : Type} (p : α → Bool) (M : Int) : ∀ l : List α, sm (fun o => if p o = true then M else 0) l = ((l.filter p).length : Int) * M
  | [] => by rw [sm]; simp
  | x :: l => by
    rw [sm, sm_count p M l, List.filter_cons]
    split
    · rw [List.length_cons, Int.natCast_add, Int.add_mul]; omega
    · omega
def pf (c : Lot → Bool) (g : Lot → Int) : List Lot → Int
  | [] => 1
  | l :: ls => (if c l = true then g l else 1) * pf c g ls
theorem pf_split {c c1 c2 : Lot → Bool} {g g1 g2 : Lot → Int} : ∀ {ls : List Lot}, (∀ l ∈ ls, (if c l = true then g l else 1) = (if c1 l = true then g1 l else 1) * (if c2 l = true then g2 l else 1)) → pf c g ls = pf c1 g1 ls * pf c2 g2 ls
  | [], _ => rfl
  | l :: ls, h => by
    rw [pf, pf, pf, h l List.mem_cons_self, pf_split fun m hm => h m (List.mem_cons_of_mem _ hm)]
    generalize (if c1 l = true then g1 l else 1) = a
    generalize (if c2 l = true then g2 l else 1) = b
    ac_rfl
theorem pf_congr {c c' : Lot → Bool} {g g' : Lot → Int} : ∀ {ls : List Lot}, (∀ l ∈ ls, (if c l = true then g l else 1) = (if c' l = true then g' l else 1)) → pf c g ls = pf c' g' ls
  | [], _ => rfl
  | l :: ls, h => by rw [pf, pf, h l List.mem_cons_self, pf_congr fun m hm => h m (List.mem_cons_of_mem _ hm)]
theorem pf_zero {c : Lot → Bool} {g : Lot → Int} : ∀ {ls : List Lot} {l : Lot}, l ∈ ls → c l = true → g l = 0 → pf c g ls = 0
  | m :: ls, l, h, hc, hg => by
    rw [pf]
    rcases List.mem_cons.mp h with z | z
    · rw [← z, if_pos hc, hg, Int.zero_mul]
    · rw [pf_zero z hc hg, Int.mul_zero]
theorem pf_one {c : Lot → Bool} {g : Lot → Int} : ∀ {ls : List Lot}, (∀ l ∈ ls, c l = false) → pf c g ls = 1
  | [], _ => rfl
  | l :: ls, h => by rw [pf, pf_one fun m hm => h m (List.mem_cons_of_mem _ hm), h l List.mem_cons_self]; rfl
theorem lw_pf (t : Told) (a : Int) (wh : Lot) : ∀ (ls : List Lot) (acc : Int), ls.foldl (lwS t a wh) acc = acc * pf (inW a wh) (fun l => fac t l a) ls
  | [], acc => by rw [pf, Int.mul_one]; rfl
  | l :: ls, acc => by
    rw [List.foldl_cons, lw_pf t a wh ls, pf]
    unfold lwS
    split
    · rw [Int.mul_assoc]
    · rw [Int.one_mul]
theorem foldl_sm {α : Type} {g : Int → α → Int} {h : α → Int} : ∀ {l : List α}, (∀ a ∈ l, ∀ tot, g tot a = tot + h a) → ∀ tot, l.foldl g tot = tot + sm h l
  | [], _, tot => by rw [sm]; simp
  | x :: l, H, tot => by
    rw [List.foldl_cons, foldl_sm (fun a ha => H a (List.mem_cons_of_mem _ ha)), H x List.mem_cons_self, sm]
    omega
theorem sm_nn {α : Type} {f : α → Int} : ∀ {l : List α}, (∀ x ∈ l, 0 ≤ f x) → 0 ≤ sm f l
  | [], _ => Int.le_refl _
  | x :: l, h => by
    rw [sm]
    have h1 := h x List.mem_cons_self
    have h2 := sm_nn fun y hy => h y (List.mem_cons_of_mem _ hy)
    omega
/-! ### the count -/
theorem lw_nn {n : Nat} (hn : n ∈ [2, 3, 4]) (t : Told) (a : Int) (wh : Lot) : 0 ≤ lw t a wh (lotsL n) :=
  (lw_bd t a wh (lotsL n) 1 (fun l hl => ⟨(lots_ne n hn l hl).2.2, (lots_ne n hn l hl).2.1⟩) (by omega)).1
theorem Wf_sm {n : Nat} (hn : n ∈ [2, 3, 4]) (t : Told) : ∀ (f : Nat), (∀ wh, 0 ≤ Wf t (lotsL n) f wh) ∧ ∀ wh, Wf t (lotsL n) (f + 1) wh = sm (fun a => lw t a wh (lotsL n) * Wf t (lotsL n) f (restOf wh a)) wh := by
  have step : ∀ f, (∀ wh, 0 ≤ Wf t (lotsL n) f wh) → ∀ wh, Wf t (lotsL n) (f + 1) wh = sm (fun a => lw t a wh (lotsL n) * Wf t (lotsL n) f (restOf wh a)) wh := fun f hf wh => by
    rw [Wf, foldl_sm (h := fun a => lw t a wh (lotsL n) * Wf t (lotsL n) f (restOf wh a)) (fun a _ tot => ?_)]
    · omega
    · have h0 := hf (restOf wh a)
      split
      · rw [Int.mul_comm]
      · have : Wf t (lotsL n) f (restOf wh a) = 0 := by omega
        rw [this, Int.mul_zero]; omega
  intro f
  induction f with
  | zero => exact ⟨fun wh => by rw [Wf]; omega, step 0 fun wh => by rw [Wf]; omega⟩
  | succ f ih =>
    have h : ∀ wh, 0 ≤ Wf t (lotsL n) (f + 1) wh := fun wh => by
      rw [ih.2]
      exact sm_nn fun a _ => Int.mul_nonneg (lw_nn hn t a wh) (ih.1 _)
    exact ⟨h, step (f + 1) h⟩
/-- the orders of some areas -/
def Pf : Nat → Lot → List Lot
  | 0, _ => [[]]
  | f + 1, wh => wh.flatMap fun a => (Pf f (restOf wh a)).map (a :: ·)
theorem Pf_orders : ∀ n ∈ [2, 3, 4], Pf n (fullL n) = ordersL n := by decide +kernel
theorem rest_mem {wh : Lot} {a x : Int} : x ∈ restOf wh a ↔ x ∈ wh ∧ x ≠ a := by
  unfold restOf
  rw [List.mem_filter]
  simp
theorem rest_len {wh : Lot} {a : Int} (nd : wh.Nodup) (ha : a ∈ wh) : (restOf wh a).Nodup ∧ (restOf wh a).length + 1 = wh.length := by
  refine ⟨nd.filter _, ?_⟩
  have e : restOf wh a = wh.erase a := by
    rw [nd.erase_eq_filter]
    unfold restOf
    refine List.filter_congr fun x _ => ?_
    by_cases h : x = a <;> simp [h]
  rw [e, List.length_erase_of_mem ha]
  have := List.length_pos_of_mem ha
  omega
theorem S_eq {n : Nat} (hn : n ∈ [2, 3, 4]) (t : Told) : ∀ (f : Nat) (wh : Lot), wh.Nodup → wh.length = f → sm (fun o => pf (subB wh) (fun l => fac t l (fI o l)) (lotsL n)) (Pf f wh) = Wf t (lotsL n) f wh
  | 0, wh, _, hl => by
    have e : wh = [] := List.eq_nil_of_length_eq_zero hl
    subst e
    rw [Pf, sm, sm, Wf, pf_one]
    · rfl
    · intro l hl
      have := (lots_ne n hn l hl).1
      cases l with
      | nil => exact absurd rfl this
      | cons x l => rfl
  | f + 1, wh, nd, hl => by
    rw [(Wf_sm hn t f).2, Pf, sm_flatMap]
    refine sm_congr fun a ha => ?_
    obtain ⟨nd', hl'⟩ := rest_len nd ha
    rw [sm_map, ← S_eq hn t f (restOf wh a) nd' (by omega), ← sm_mul]
    refine sm_congr fun o _ => ?_
    rw [show lw t a wh (lotsL n) = 1 * pf (inW a wh) (fun l => fac t l a) (lotsL n) from lw_pf t a wh (lotsL n) 1, Int.one_mul]
    refine pf_split fun l _ => ?_
    rw [fI_cons]
    by_cases hal : a ∈ l
    · have h2 : subB (restOf wh a) l = false := by
        cases h : subB (restOf wh a) l with
        | false => rfl
        | true => exact absurd (rest_mem.mp (subB_iff.mp h a hal)).2 (by simp)
      have h1 : inW a wh l = subB wh l := by
        show (decide (a ∈ l) && subB wh l) = subB wh l
        rw [decide_eq_true hal]; rfl
      rw [h1, h2, if_pos hal]
      simp
    · have h1 : inW a wh l = false := by
        show (decide (a ∈ l) && subB wh l) = false
        rw [decide_eq_false hal]; rfl
      have h2 : subB (restOf wh a) l = subB wh l := by
        rw [Bool.eq_iff_iff, subB_iff, subB_iff]
        exact ⟨fun h x hx => (rest_mem.mp (h x hx)).1, fun h x hx => rest_mem.mpr ⟨h x hx, fun z => hal (z ▸ hx)⟩⟩
      rw [h1, h2, if_neg hal]
      simp
def facP (t : Told) (l : Lot) : Int := if (!(tGet t l).isSome) = true then (l.length : Int) - 1 else 1
def manyH (n : Nat) (t : Told) (j : Nat) : Int := ((lotsL n).take j).foldl (fun acc l => acc * facP t l) 1
theorem many_pf (t : Told) : ∀ (ls : List Lot) (acc : Int), ls.foldl (fun acc l => acc * facP t l) acc = acc * pf (fun _ => true) (facP t) ls
  | [], acc => by rw [pf, Int.mul_one]; rfl
  | l :: ls, acc => by rw [List.foldl_cons, many_pf t ls, pf, if_pos rfl, Int.mul_assoc]
theorem lots_full : ∀ n ∈ [2, 3, 4], (∀ l ∈ lotsL n, subB (fullL n) l = true) ∧ (fullL n).Nodup ∧ (fullL n).length = n ∧ fullL n ∈ lotsL n := by decide +kernel
theorem W_count {n : Nat} (hn : n ∈ [2, 3, 4]) {t : Told} (ht : TV n t) : W t n (fullL n) = ((ordersT n t).length : Int) * manyH n t (lotsL n).length := by
  obtain ⟨hsub, hnd, hlen, _⟩ := lots_full n hn
  unfold W
  rw [hlen, ← S_eq hn t n (fullL n) hnd hlen, Pf_orders n hn]
  unfold ordersT
  rw [← sm_count]
  refine sm_congr fun o _ => ?_
  split
  · rename_i hok
    unfold manyH
    rw [List.take_length, many_pf, Int.one_mul]
    refine pf_congr fun l hl => ?_
    rw [if_pos (hsub l hl), if_pos rfl]
    unfold fac facP
    cases hx : tGet t l with
    | none => rfl
    | some x =>
      have := okO_iff.mp hok _ (tGet_mem hx)
      simp [this.symm]
  · rename_i hok
    have : ∃ p ∈ t, fI o p.1 = p.2 := Classical.byContradiction fun h => hok (okO_iff.mpr fun p hp e => h ⟨p, hp, e⟩)
    obtain ⟨p, hp, e⟩ := this
    refine pf_zero (ht.lot p hp) (hsub _ (ht.lot p hp)) ?_
    unfold fac
    rw [tGet_of (a := p.2) ht.nd hp, e]
    simp
/-! ### an order or a bar -/
theorem fI_mem : ∀ n ∈ [2, 3, 4], ∀ o ∈ ordersL n, ∀ l ∈ lotsL n, fI o l ∈ l := by decide +kernel
theorem fI_sub {l m : Lot} (h : ∀ x ∈ m, x ∈ l) : ∀ o : Lot, fI o l ∈ m → fI o m = fI o l
  | [], _ => rfl
  | x :: o, hm => by
    rw [fI_cons] at hm ⊢
    rw [fI_cons]
    by_cases h1 : x ∈ l
    · rw [if_pos h1] at hm ⊢
      rw [if_pos hm]
    · rw [if_neg h1] at hm ⊢
      rw [if_neg fun z => h1 (h x z)]
      exact fI_sub h o hm
theorem barred_iff {t : Told} {l : Lot} : isBarred t l = true ↔ ∀ a ∈ l, ∃ p ∈ t, (∀ x ∈ p.1, x ∈ l) ∧ p.2 = a := by
  unfold isBarred
  rw [List.all_map, List.all_eq_true]
  constructor
  · intro h a ha
    have := h a ha
    have hm : a ∈ pickedL t l := of_decide_eq_true this
    obtain ⟨p, hp, e⟩ := List.mem_map.mp hm
    obtain ⟨h1, h2⟩ := List.mem_filter.mp hp
    rw [liesIn_one] at h2
    exact ⟨p, h1, subB_iff.mp h2, e⟩
  · intro h a ha
    obtain ⟨p, hp, h1, e⟩ := h a ha
    refine decide_eq_true (List.mem_map.mpr ⟨p, List.mem_filter.mpr ⟨hp, ?_⟩, e⟩)
    rw [liesIn_one]
    exact subB_iff.mpr h1
theorem rest_lot : ∀ n ∈ [2, 3, 4], ∀ wh ∈ lotsL n, ∀ a ∈ wh, (restOf wh a) ∈ lotsL n ∨ (restOf wh a).length = 1 := by decide +kernel
theorem Pf_one (x : Int) : Pf 1 [x] = [[x]] := by
  rw [Pf, List.flatMap_cons, List.flatMap_nil, Pf]
  rfl
theorem greedy {n : Nat} (hn : n ∈ [2, 3, 4]) {t : Told} (ht : TV n t) (hb : ∀ l ∈ lotsL n, isBarred t l = false) : ∀ (f : Nat) (wh : Lot), wh.length = f → (wh ∈ lotsL n ∨ wh.length = 1) → ∃ o ∈ Pf f wh, ∀ p ∈ t, (∀ x ∈ p.1, x ∈ wh) → fI o p.1 ≠ p.2
  | 0, wh, hl, h => by
    rcases h with h | h
    · have := (lots_ne n hn wh h).2.2; omega
    · omega
  | f + 1, wh, hl, h => by
    by_cases h1 : wh.length = 1
    · match wh, h1 with
      | [x], _ =>
        have : f = 0 := by simp at hl; omega
        subst this
        rw [Pf_one]
        refine ⟨[x], List.mem_singleton.mpr rfl, fun p hp hs => ?_⟩
        have h2 := (lots_ne n hn _ (ht.lot p hp)).2.2
        have h3 := nodup_len p.1 [x] (lots_nd n hn _ (ht.lot p hp)) hs
        simp at h3
        omega
    · have hw : wh ∈ lotsL n := h.resolve_right h1
      have hnb := hb wh hw
      have : ∃ a ∈ wh, ∀ p ∈ t, (∀ x ∈ p.1, x ∈ wh) → p.2 ≠ a := Classical.byContradiction fun hc => by
        have : isBarred t wh = true := barred_iff.mpr fun a ha => Classical.byContradiction fun hd => hc ⟨a, ha, fun p hp hs e => hd ⟨p, hp, hs, e⟩⟩
        rw [this] at hnb
        cases hnb
      obtain ⟨a, ha, hfree⟩ := this
      have hnd := lots_nd n hn wh hw
      obtain ⟨_, hrl⟩ := rest_len hnd ha
      obtain ⟨o, ho, hok⟩ := greedy hn ht hb f (restOf wh a) (by omega) (rest_lot n hn wh hw a ha)
      refine ⟨a :: o, ?_, fun p hp hs => ?_⟩
      · rw [Pf, List.mem_flatMap]
        exact ⟨a, ha, List.mem_map.mpr ⟨o, ho, rfl⟩⟩
      · rw [fI_cons]
        by_cases hap : a ∈ p.1
        · rw [if_pos hap]
          exact fun z => hfree p hp hs z.symm
        · rw [if_neg hap]
          exact hok p hp fun x hx => rest_mem.mpr ⟨hs x hx, fun z => hap (z ▸ hx)⟩
theorem bars_orders {n : Nat} (hn : n ∈ [2, 3, 4]) {t : Told} (ht : TQ (lotsL n) t) : barsL n t = [] ↔ ordersT n t ≠ [] := by
  have htv := ht.tv hn
  have hmem : ∀ l, l ∈ lotsL n ↔ l ∈ bySizeL n := fun l => (bySize_lots n hn).mem_iff
  have hbars : barsL n t = [] ↔ ∀ l ∈ lotsL n, isBarred t l = false := by
    unfold barsL
    rw [List.filter_eq_nil_iff]
    constructor
    · intro h l hl
      have := h l ((hmem l).mp hl)
      rw [barB_eq] at this
      cases hq : isBarred t l with
      | false => rfl
      | true => exact absurd hq this
    · intro h l hl z
      rw [barB_eq, h l ((hmem l).mpr hl)] at z
      cases z
  rw [hbars]
  constructor
  · intro hb hno
    obtain ⟨_, _, hlen, hfull⟩ := lots_full n hn
    obtain ⟨o, ho, hok⟩ := greedy hn htv hb n (fullL n) hlen (.inl hfull)
    rw [Pf_orders n hn] at ho
    have : o ∈ ordersT n t := List.mem_filter.mpr ⟨ho, okO_iff.mpr fun p hp => hok p hp (subB_iff.mp ((lots_full n hn).1 _ (htv.lot p hp)))⟩
    rw [hno] at this
    cases this
  · intro hno l hl
    cases hb : isBarred t l with
    | false => rfl
    | true =>
      exfalso
      refine hno ?_
      cases hq : ordersT n t with
      | nil => rfl
      | cons o r =>
        exfalso
        have hom : o ∈ ordersT n t := by rw [hq]; exact List.mem_cons_self
        obtain ⟨ho, hok⟩ := List.mem_filter.mp hom
        obtain ⟨p, hp, hs, e⟩ := barred_iff.mp hb (fI o l) (fI_mem n hn o ho l hl)
        exact okO_iff.mp hok p hp ((fI_sub hs o (by rw [← e]; exact ht.pick p hp)).trans e.symm)
/-! ### bars, is_bar, sure picks -/
theorem lots_incr : ∀ n ∈ [2, 3, 4], ∀ l ∈ lotsL n, incr l = true ∧ incr l.reverse = false ∧ (l.length = 2 ∨ l.length = 3 ∨ l.length = 4) ∧ ∀ a ∈ l, 0 ≤ a := by decide +kernel
theorem isBarT_lot {n : Nat} (hn : n ∈ [2, 3, 4]) (t : Told) {l : Lot} (hl : l ∈ lotsL n) : isBarT t l = decide (l ∈ barsL n t) := by
  obtain ⟨h1, _, h2, _⟩ := lots_incr n hn l hl
  unfold isBarT
  rw [if_neg (by omega), h1, Bool.true_and, Bool.eq_iff_iff, decide_eq_true_iff]
  unfold barsL
  rw [List.mem_filter, barB_eq]
  exact ⟨fun h => ⟨(bySize_lots n hn).mem_iff.mp hl, h⟩, fun h => h.2⟩
theorem isBarT_rev {n : Nat} (hn : n ∈ [2, 3, 4]) (t : Told) {l : Lot} (hl : l ∈ lotsL n) : isBarT t l.reverse = false := by
  obtain ⟨_, h1, h2, _⟩ := lots_incr n hn l hl
  unfold isBarT
  rw [if_neg (by rw [List.length_reverse]; omega), h1, Bool.false_and]
theorem isBarT_one (t : Told) (l : Lot) : isBarT t (l.take 1) = false := if_pos (by rw [List.length_take]; omega)
theorem barL_head {n : Nat} (t : Told) : barL n t = (barsL n t).head? := by
  unfold barL barsL
  rw [List.head?_filter]
  congr 1
  funext l
  rw [barB_eq]
theorem bars_mem {n : Nat} (hn : n ∈ [2, 3, 4]) {t : Told} {l : Lot} (h : l ∈ barsL n t) : l ∈ lotsL n := (bySize_lots n hn).mem_iff.mpr (List.mem_filter.mp h).1
theorem pairs2 : ∀ n ∈ [2, 3, 4], ∀ l ∈ pairsL n, l.length = 2 := by decide +kernel
theorem sure_mem {n : Nat} (t : Told) : ∀ (ls : List Lot) (acc : Told) {p : Lot × Int}, p ∈ ls.foldl (sureS n t) acc → p ∈ acc ∨ p.1 ∈ ls
  | [], acc, p, h => .inl h
  | l :: ls, acc, p, h => by
    rw [List.foldl_cons] at h
    rcases sure_mem t ls _ h with z | z
    · unfold sureS at z
      split at z
      · rcases List.mem_append.mp z with y | y
        · exact .inl y
        · rw [List.mem_singleton.mp y]; exact .inr List.mem_cons_self
      · exact .inl z
    · exact .inr (List.mem_cons_of_mem _ z)
theorem sortT_sub {n : Nat} {t : Told} {p : Lot × Int} (h : p ∈ sortT n t) : p ∈ t := by
  unfold sortT at h
  rw [List.mem_filterMap] at h
  obtain ⟨l, _, e⟩ := h
  cases h1 : tGet t l with
  | none => rw [h1] at e; cases e
  | some a => rw [h1] at e; cases e; exact tGet_mem h1
theorem sure_pairs {n : Nat} (hn : n ∈ [2, 3, 4]) (t : Told) {p : Lot × Int} (h : p ∈ sortT n (sureL n t)) : (!(tGet t p.1).isSome && decide ((2 : Int) < (p.1.length : Int))) = false := by
  rcases sure_mem t _ _ (sortT_sub h) with z | z
  · have : tGet t p.1 ≠ none := fun e => tGet_none.mp e (List.mem_map_of_mem z)
    cases hq : tGet t p.1 with
    | none => exact absurd hq this
    | some x => rfl
  · have := pairs2 n hn _ z
    rw [this]
    simp
end GY
namespace GY
open PySem PySem.Spec PyProof.Rows L2 PySem.W

/-! ## a comprehension whose items are drawn -/
section
variable {X : Cx} {e b o : Expr} {pos : Pos} {B : Bs} {ρ : List Sl} {a : Addr} {n c : Nat} {P : PyData → Prop}
theorem ulc_read {w : World} {α : Type} {emb : α → PyData} {xs : List α} {i j : Nat} (hj : ρ[j]? = some (.ur a n)) (hl : xs.length ≤ 1000) {σ : L2.St} {H : Hp} {Q : VK}
    (q : tU w B ρ a (n + xs.length * c) (fun d => ∃ ds, d = .list ds ∧ ds.length = xs.length ∧ ∀ e ∈ ds, P e) σ H Q) :
    tLc (tI w B ρ (xs.map emb)) (gName i) (fun σ H Q => ∃ ρ', True ∧ tT w B ρ' true σ H Q) (fun σ H Q => ∃ y : α × Nat, (y.1 ∈ xs ∧ y.2 + c ≤ n + xs.length * c) ∧ tU w B ((wipeR (ρ.set j (.ur a y.2)) [i]).set i (.pu (emb y.1))) a (y.2 + c) P σ H Q) [i] σ H Q := by
  obtain ⟨F, as, k⟩ := q
  refine ⟨F, as, fun J F1 H1 g1 yl D hD => ?_⟩
  have a1 := as.grow g1
  have fD : F1 D = none := g1.fh.free hD
  obtain ⟨va, hva, ok1⟩ := a1.ok j _ hj (fun z => by cases z)
  have hva' : va = .ref a := by obtain ⟨_, _, _, ev, _⟩ := ok1; exact ev
  subst hva'
  have fa : F1 a = none := by obtain ⟨_, _, _, _, h, _⟩ := ok1; exact h
  have ha1 : H1 a ≠ none := by obtain ⟨_, _, _, _, _, h, _⟩ := ok1; rw [h]; simp
  have hDa : D ≠ a := fun z => ha1 (z ▸ hD)
  have dD : dropA H1 a D = none := by rw [dropA_ne hDa]; exact hD
  let Pv : Nat → Hp → Prop := fun i H' => ∃ F' acc ds, Gr F1 (dropA H1 a) F' H' ∧ VOk w F' H' (.ref a) (.ur a (n + i * c)) ∧ F' D = none ∧ H' D = some (.lst acc) ∧ RpAll F' acc ds ∧ ds.length = i ∧ ∀ e ∈ ds, P e
  have upd_ok : ∀ {F' H' : Hp} {m : Nat} {u : HO}, VOk w F' H' (.ref a) (.ur a m) → VOk w F' (upd H' D u) (.ref a) (.ur a m) := fun {F' H' m u} h => by
    obtain ⟨x, y, z, ev, hf, hh, r⟩ := h
    exact ⟨x, y, z, ev, hf, by rw [upd_ne (fun z => hDa z.symm)]; exact hh, r⟩
  refine ⟨fun i m H' => m = xs.length - i ∧ i ≤ xs.length ∧ Pv i H', ⟨xs.length, by simp, Nat.zero_le _, F1, [], [], (Gr.raw g1.fh hD).dropH, upd_ok (by rw [Nat.zero_mul, Nat.add_zero]; exact ok1), fD, upd_same, .nil, rfl, fun _ h => by cases h⟩, ?_⟩
  rintro q m H' ⟨rfl, hq', F2, acc, ds, g2, ok2, f2, hD2, r2, hdl, hP⟩
  by_cases hlt : q < xs.length
  · have hix : xs[q]? = some xs[q] := List.getElem?_eq_getElem hlt
    have hm : xs[q] ∈ xs := List.getElem_mem hlt
    have hd : (xs.map emb)[q]? = some (emb xs[q]) := by rw [List.getElem?_map, hix]; rfl
    refine .inr ⟨yl.go q F2 H' g2.f g2.fh (by simpa using hlt), Pv (q + 1), fun H3 p3 => ⟨xs.length - (q + 1), by omega, rfl, hlt, p3⟩, fun v H3 y => ?_⟩
    obtain ⟨F3, g3, o3⟩ := yl.yld q F2 H' v H3 _ g2.f g2.fh hd y
    have a2 := a1.growU hj (g2.trans g3) (ok2.grow g3)
    have a3 : AS w B (wipeR (ρ.set j (.ur a (n + q * c))) [i]) F3 (wipe σ [i]) H3 := a2.wipe _
    have hb := bd1 (w := w) (B := B) (ρ := wipeR (ρ.set j (.ur a (n + q * c))) [i]) (d := emb xs[q]) i v F3 H3 (wipe σ [i]) (fun σ' H' => wipe σ' [i] = wipe σ [i] ∧ AS w B ((wipeR (ρ.set j (.ur a (n + q * c))) [i]).set i (.pu (emb xs[q]))) F3 σ' H') a3 o3 (fun σ' a3' hw => ⟨by rw [hw [i] (by simp), wipe_wipe], a3'⟩)
    obtain ⟨hw, a3'⟩ := hb
    refine ⟨hw, _, trivial, F3, a3', fun F4 H4 g4 => ?_⟩
    show ∃ y : α × Nat, _
    have hmul : n + q * c + c ≤ n + xs.length * c := by
      have : (q + 1) * c ≤ xs.length * c := Nat.mul_le_mul_right c hlt
      rw [Nat.add_mul] at this
      omega
    refine ⟨(xs[q], n + q * c), ⟨hm, hmul⟩, F4, a3'.grow g4, fun d y F5 H5 hd5 g5 ok5 o5 => ?_⟩
    have nD3 : F3 D = none := g3.nw D f2 ⟨_, hD2, fun _ z => by cases z⟩
    have hD3 : H3 D = some (.lst acc) := g3.h D _ hD2
    have nD4 : F4 D = none := g4.nw D nD3 ⟨_, hD3, fun _ z => by cases z⟩
    have hD4 : H4 D = some (.lst acc) := g4.h D _ hD3
    have hD4' : dropA H4 a D = some (.lst acc) := by rw [dropA_ne hDa]; exact hD4
    have nD5 : F5 D = none := g5.nw D nD4 ⟨_, hD4', fun _ z => by cases z⟩
    have hD5 : H5 D = some (.lst acc) := g5.h D _ hD4'
    have g25 : Gr F1 (dropA H1 a) F5 H5 := (g2.trans (g3.trans g4)).transU g5
    refine ⟨acc, hD5, ?_, F5, acc ++ [y], ds ++ [d], g25.mut dD nD5, upd_ok (by rw [Nat.add_mul, Nat.one_mul, ← Nat.add_assoc]; exact ok5), nD5, upd_same, (RpAll.mono (g3.f.trans (g4.f.trans g5.f)) _ _ r2).append (.cons o5 .nil), by rw [List.length_append, hdl]; rfl, fun e he => ?_⟩
    · have l1 := r2.length
      have : acc.length ≤ 1000 := by omega
      exact small1000 this
    · rcases List.mem_append.mp he with z | z
      · exact hP e z
      · rw [List.mem_singleton.mp z]; exact hd5
  · have ei : q = xs.length := by omega
    have hst := yl.stop F2 H' g2.f g2.fh
    rw [List.length_map] at hst
    have gz := g2.freeze dD f2 hD2
    refine .inl ⟨ei ▸ hst, k (.list ds) (.ref D) _ H' ⟨ds, rfl, by omega, hP⟩ ((Gr.dropH g1).transU gz) ?_ (Rp.lst upd_same (RpAll.mono (same_upd f2) _ _ r2))⟩
    rw [← ei]
    obtain ⟨x, y, z, ev, hf, hh, r⟩ := ok2
    exact ⟨x, y, z, ev, by rw [upd_ne (fun z => hDa z.symm)]; exact hf, hh, r⟩
theorem ulc {α : Type} (i j : Nat) (emb : α → PyData) {xs : List α} {x : Str} {px : Pos} {elt iter : Expr} {scope : Scope} (hj : ρ[j]? = some (.ur a n)) (nd : X.N.Nodup) (hi : PI X (.Name x px) iter (tI X.w B ρ (xs.map emb)))
    (he : ∀ {s : Shared} {H : Hp} {C : Addr} {cl : List (Str × Addr)} {fp : List Addr} (z : α) (q : Nat), z ∈ xs → q + c ≤ n + xs.length * c → PE (X.blk s H scope (compEnvC scope cl C X.env) fp) elt (tU X.w B ((wipeR (ρ.set j (.ur a q)) [i]).set i (.pu (emb z))) a (q + c) P))
    (hl : xs.length ≤ 1000) (hi' : X.N[i]? = some x := by rfl) (ok : BlkOk X.N X.env.scope scope [(x, i)] := by exact blkOk_by (by kernel_rfl)) (hc : X.calm = true := by rfl) (hx : ∀ (s : Shared) (H : Hp) (C : Addr) (cl : List (Str × Addr)) (fp : List Addr), Loc (X.blk s H scope (compEnvC scope cl C X.env) fp).env.scope x := by intro _ _ _ _ _; first | exact Or.inl rfl | exact Or.inr rfl)
    (fx : ∀ (s : Shared) (H : Hp) (C : Addr) (cl : List (Str × Addr)) (fp : List Addr), (X.blk s H scope (compEnvC scope cl C X.env) fp).fn x = true ∨ (X.blk s H scope (compEnvC scope cl C X.env) fp).env.scope.names.lookup x = some .local := by intro _ _ _ _ _; first | exact .inl rfl | exact .inr rfl) (hs : ∀ x, foldedSetIterable iter X.env x = pure x := by intro _; rfl) :
    PE X (.ListComp elt [⟨.Name x px, iter, [], 0⟩] scope pos) (tU X.w B ρ a (n + xs.length * c) (fun d => ∃ ds, d = .list ds ∧ ds.length = xs.length ∧ ∀ e ∈ ds, P e)) :=
  weakE (pe_lc (own := [(x, i)]) (g := gName i) (tt := fun σ H Q => ∃ ρ', True ∧ tT X.w B ρ' true σ H Q) (te := fun σ H Q => ∃ y : α × Nat, (y.1 ∈ xs ∧ y.2 + c ≤ n + xs.length * c) ∧ tU X.w B ((wipeR (ρ.set j (.ur a y.2)) [i]).set i (.pu (emb y.1))) a (y.2 + c) P σ H Q) hc nd hi ok
    (fun s H C cl fp => pg_name (X := (X.blk s H scope (compEnvC scope cl C X.env) fp)) nd hi' (hx s H C cl fp) (fx s H C cl fp))
    (fun s H C cl fp => anyTs (p := fun _ => True) (t := fun ρ' => tT X.w B ρ' true) (fun ρ' _ => pts0)) (fun s H C cl fp => anyE (p := fun y : α × Nat => y.1 ∈ xs ∧ y.2 + c ≤ n + xs.length * c) (t := fun y => tU X.w B ((wipeR (ρ.set j (.ur a y.2)) [i]).set i (.pu (emb y.1))) a (y.2 + c) P) (fun y hy => he y.1 y.2 hy.1 hy.2)) hs) fun σ H Q q => ulc_read hj hl q
/-- e + d, lists; e draws -/
theorem ucat {m : Nat} {P' : PyData → Prop} {ds : List PyData} {x : Expr} (j : Nat) (hj : ρ[j]? = some (.ur a n)) (hP : ∀ d, P d → ∃ es, d = .list es ∧ es.length + ds.length < 1000 ∧ P' (.list (es ++ ds))) (he : PE X e (tU X.w B ρ a m P)) (hx : PE X x (tV X.w B (ρ.set j (.ur a m)) (.pu (.list ds)))) : PE X (.BinOp e .Add x pos) (tU X.w B ρ a m P') :=
  weakE (pe_op op_cat he hx) fun σ H Q ⟨F, as, k⟩ => ⟨F, as, fun d v F1 H1 hd g ok o => ⟨F1, as.growU hj g ok, fun y F2 H2 g2 oy => by
    obtain ⟨es, rfl, hl, hp⟩ := hP d hd
    obtain ⟨q, xs, ev, hq, r⟩ := Rp.list_inv (Rp.mono g2.f _ _ o)
    obtain ⟨q2, ys, ev2, hq2, r2⟩ := Rp.list_inv oy
    refine ⟨q, q2, xs, ys, ev, ev2, g2.fh _ _ hq, g2.fh _ _ hq2, ?_, fun t ht => ?_⟩
    · have h1 := r.length
      have h2 := r2.length
      exact Nat.le_of_lt (small1000 (by omega))
    · have gn : Gr F2 H2 (upd F2 t (.lst (xs ++ ys))) (upd H2 t (.lst (xs ++ ys))) := Gr.new g2.fh ht
      exact k _ _ _ _ hp (g.trans (g2.trans gn)) (ok.grow (g2.trans gn)) (Rp.lst upd_same (RpAll.mono (same_upd (g2.fh.free ht)) _ _ (r.append r2)))⟩⟩
end
end GY
namespace GY
open PySem PySem.Spec PyProof.Rows L2 PySem.W

/-! ## _law_right -/
theorem LO_int (n : Nat) (i : Int) : LO n (.int i) (.int i) := by
  cases n with
  | zero => exact ⟨i, rfl, rfl⟩
  | succ n => exact .inl ⟨i, rfl, rfl⟩
theorem LO_told {t : Told} (h : TS t) : LO 3 (.tuple (t.map eP)) (.list (t.map eLP)) := by
  refine .inr ⟨_, _, .inr rfl, rfl, by rw [List.length_map]; have := h.len; omega, paired_map fun p hp => ?_⟩
  refine .inr ⟨_, _, .inr rfl, rfl, by simp, .cons (.inr ⟨_, _, .inr rfl, rfl, by rw [List.length_map]; have := h.lot p hp; omega, paired_map fun i _ => LO_int 0 i⟩) (.cons (LO_int 1 p.2) .nil)⟩
theorem any_lot (ls : List Lot) (l : Lot) : ((ls.map dI).any fun z => PyData.eqv z (dI l)) = decide (l ∈ ls) := by
  induction ls with
  | nil => simp
  | cons x ls ih =>
    rw [List.map_cons, List.any_cons, ih, eqv_dI]
    by_cases h1 : x = l
    · subst h1; simp
    · have h2 : ¬ l = x := fun z => h1 z.symm
      by_cases h3 : l ∈ ls <;> simp [h1, h2, h3]
def barD (n : Nat) (t : Told) : PyData := match barsL n t with
  | [] => cannotD
  | l :: _ => dI l
def Pre_law_right (ss : List Sl) : Prop := ss = []
def Post_law_right (_ : List Sl) (d : PyData) : Prop := d = .bool true
section
variable {P : Program} {w : World} {K : PySem.W.Frag} {mg : Str → Option Value} {base : Heap} {f C : Addr} {fd : FuncData} {k : Nat}
theorem ok_law_right (M : Mg mg) (Gt : Cal P w K mg base CX0 k "_law_take" ["_law_urn", "_law_low_so"] (spU w 1 Pre_take Post_take)) (Gof : Cal P w K mg base CX0 k "_law_of" ["_law_urn", "_law_goods"] (spU w 1 Pre_of Post_of)) (Gto : Cal P w K mg base CX0 k "_law_told" ["_law_urn", "_law_m"] (spU w 24 Pre_told Post_told))
    (Gord : Cal P w K mg base CX0 k "_law_orders" ["_law_m"] (spS w Sp_law_orders)) (Gfi : Cal P w K mg base CX0 k "_law_first" ["_law_order", "_law_lot"] (spS w Sp_first_in)) (Glot : Cal P w K mg base CX0 k "_law_lots" ["_law_m", "_law_least"] (spS w Sp_law_lots)) (Gbars : Cal P w K mg base CX0 k "_law_bars" ["_law_m", "_law_told_here"] (spS w Sp_law_bars))
    (Got : Cal P w K mg base CX0 k "orders_told" ["m", "told"] (spS w Sp_orders_told)) (Gma : Cal P w K mg base CX0 k "goods_many" ["m", "told"] (spS w Sp_goods_many)) (Gli : Cal P w K mg base CX0 k "_law_lists" ["_law_matter"] (spS w (Sp_law_lists 3))) (Ghe : Cal P w K mg base CX0 k "_law_heard" ["_law_door", "_law_m", "_law_told_here"] (spS w Sp_law_heard))
    (Gsame : Cal P w K mg base CX0 k "_law_same" ["_law_got", "_law_goal"] (spS w (Sp_law_same 6))) (Gib : Cal P w K mg base CX0 k "is_bar" ["told", "thing"] (spS w Sp_is_bar)) (Gs : Cal P w K mg base (L2.CX P w) k "sure_picks" ["m", "told"] (spX w C Sp_sure_picks Rs_sure_picks))
    (Gsm : Cal P w K mg base CX0 k "_law_small_right" ["_law_m", "_law_told_here"] (spS w Sp_law_small_right)) (F : Fun K "_law_right" "_law_right" s_law_right f fd) : FnOk P w K mg base CX0 (k + 1) f fd ["_law_urn"] (spU w 28 Pre_law_right Post_law_right) := by
  refine okU F sc_law_right (fun ss e => by rw [show ss = [] from e]; exact ⟨rfl, fun s h => by cases h⟩) (fun cdv A outer sh H E B ss a n0 hr hn0 e => ?_)
  obtain rfl : ss = [] := e
  -- how many areas
  refine hs_cons (hs_setU 1 0 rfl (uadd take_int dint (ucall Gt hr (acons (dvar 0) (acons dint anil)) (by omega) ⟨3, rfl, by omega, by omega⟩)) sc_law_right.nd) ?_
  rintro ρ' ⟨d, ⟨q, ⟨_, i, ej, ei, hi0, hi3⟩, rfl⟩, rfl⟩
  cases ej
  cases ei
  obtain ⟨n, en, hn⟩ : ∃ n : Nat, 2 + q = (n : Int) ∧ n ∈ [2, 3, 4] := ⟨(2 + q).toNat, by omega, by simp; omega⟩
  rw [en]
  -- picks told
  refine hs_cons (hs_par3Uc 2 3 4 0 rfl (ucall Gto hr (acons (dvar 0) (acons (dvar 1) anil)) (by omega) ⟨n, hn, rfl⟩) (dN dint) (dlstN (ds := []) anil) sc_law_right.nd) ?_
  rintro ρ' ⟨d, ⟨n', t, hn', en', rfl, htq⟩, rfl⟩
  have en2 : n' = n := by
    injection en' with en' _
    injection en' with en'
    injection en' with en'
    omega
  subst en2
  have htv := htq.tv hn
  have hts := htv.ts hn
  have htl := htv.len
  have kt : (∀ kv ∈ t.map kvP, kv.1 ≠ []) ∧ ((t.map kvP).map (·.1)).Nodup ∧ (t.map kvP).length ≤ 1000 := ⟨htv.keys hn, htv.knd, htv.klen⟩
  have hol := (orders_ne n' hn).2
  let Mh : Int := manyH n' t (lotsL n').length
  let oj : Nat → List Lot := fun j => ((ordersL n').take j).filter (okO t)
  have hoj : ∀ j, (oj j).length ≤ 100 := fun j => by
    refine Nat.le_trans (List.length_filter_le _ _) ?_
    rw [List.length_take]; omega
  refine hs_then (hs_forT (α := Lot) 5 dI (fun j => [.ur a (n0 + 1 + 24), .pu (.int n'), .pu (xD (t.map eP)), .pu (.int (((oj j).length : Int) * Mh)), .ol ((oj j).map dI), .un, .un, .un, .un, .un, .un, .un, .un, .un]) (xs := ordersL n') sc_law_right.nd PassesOwn.never (iseq (dV (dcall Gord hr (acons (dvar 1) anil) ⟨n', hn, rfl, rfl⟩))) ?_ fun j o ho => ?_) ?_
  · show _ = [_, _, _, Sl.pu (.int (((oj 0).length : Int) * Mh)), _, _, _, _, _, _, _, _, _, _]
    show [_, _, _, Sl.pu (.int 0), _, _, _, _, _, _, _, _, _, _] = [_, _, _, Sl.pu (.int ((0 : Int) * Mh)), _, _, _, _, _, _, _, _, _, _]
    rw [Int.zero_mul]
    rfl
  · have hom := List.mem_of_getElem? ho
    have eo : oj (j + 1) = if okO t o = true then oj j ++ [o] else oj j := filter_take _ ho
    refine hs_one (hs_if (b := okO t o) (deqP (tC (ceqD hr (dfz (dlc2 (α := Lot × Int) 6 7 eP (fun p => dI p.1) (fun p => .int p.2) (fun p => decide (p.2 = fI o p.1)) (fun _ => .int 1) sc_law_right.nd (iseq (dwh (dvar 2) (NK_eP t))) (fun _ _ => rfl)
      (fun p hp => pts_one (tC (ceqI (dvar 7) (dV (dcall Gfi hr (acons (dvar 5) (acons (dvar 6) anil)) ⟨o, p.1, fI o p.1, rfl, orders_len n' hn o hom, first_all n' hn o hom _ (htv.lot p hp), rfl⟩))))) (fun _ _ _ => dint) (by omega))) (dlst (ds := []) anil) (sh_ones _) sh_nil)) (by rw [eqv_nil1, ← okH_eq]; rfl)) (fun hb => ?_) fun hb => ?_)
    · refine hs_then (hs_append 4 (ds := (oj j).map dI) (dvar 5) (by rw [List.length_map]; have := hoj j; omega)) ?_
      refine hs_then (hs_set 8 (dN dint) sc_law_right.nd) ?_
      refine hs_then (hs_forT (α := Lot) 6 dI (fun q => [.ur a (n0 + 1 + 24), .pu (.int n'), .pu (xD (t.map eP)), .pu (.int (((oj j).length : Int) * Mh)), .ol ((oj j).map dI ++ [dI o]), .pu (dI o), .un, .un, .pu (.int (manyH n' t q)), .un, .un, .un, .un, .un]) (xs := lotsL n') sc_law_right.nd PassesOwn.never (iseq (dfz (dcall Glot hr (acons (dvar 1) (acons dint anil)) ⟨n', hn, rfl, rfl⟩))) rfl fun q l hl => ?_) ?_
      · have hlm := List.mem_of_getElem? hl
        obtain ⟨hne, hl4, hl2⟩ := lots_ne n' hn l hlm
        have em : manyH n' t (q + 1) = manyH n' t q * facP t l := foldl_snoc _ _ hl
        refine hss_post (hs_one (hs_set 8 (dN (dmul (j := facP t l) (dvar 8) (dif (c := !(tGet t l).isSome) (deqP (tC (cdnin' hr (dkey (dvar 6) hne) (dV (ddict (kvs := t.map kvP) hr rfl M.dict_ (deqT (dvar 2) (by rw [ekv])) kt.1 kt.2.1 kt.2.2)))) (by rw [dget_kv]; cases tGet t l <;> rfl)) (fun h => deqT (dsub (dlen M.len_ (dvar 6)) dint) (by rw [List.length_map]; unfold facP; rw [if_pos h])) fun h => deqT dint (by unfold facP; rw [if_neg (by rw [h]; exact Bool.false_ne_true)])) (.inr ?_))) sc_law_right.nd)) fun ρ' e => ?_
        · unfold facP
          split <;> omega
        · subst e
          refine Up.to (ρ' := _) ?_ rfl
          rw [em]
          exact .keep (.keep (.keep (.keep (.keep (.keep (.drop (.keep (.keep (.keep (.keep (.keep (.keep (.keep .nil)))))))))))))
      · refine hss_post (hs_one (hs_set 3 (dN (dadd (dvar 3) (dvar 8))) sc_law_right.nd)) fun ρ' e => ?_
        subst e
        refine Up.to (ρ' := _) ?_ rfl
        rw [eo, if_pos hb, List.map_append, List.length_append]
        have e2 : (((oj j).length + [o].length : Nat) : Int) * Mh = ((oj j).length : Int) * Mh + manyH n' t (lotsL n').length := by
          rw [Int.natCast_add, Int.add_mul]
          show _ + (1 : Int) * Mh = _
          rw [Int.one_mul]
        rw [e2]
        exact .keep (.keep (.keep (.keep (.keep (.drop (.keep (.keep (.drop (.keep (.keep (.keep (.keep (.keep .nil)))))))))))))
    · refine hss_post hs_nil fun ρ' e => ?_
      subst e
      refine Up.to (ρ' := _) ?_ rfl
      rw [eo, if_neg (by rw [hb]; exact Bool.false_ne_true)]
      exact .keep (.keep (.keep (.keep (.keep (.drop (.keep (.keep (.keep (.keep (.keep (.keep (.keep (.keep .nil)))))))))))))
  have eof : oj (ordersL n').length = ordersT n' t := by show ((ordersL n').take (ordersL n').length).filter (okO t) = _; rw [List.take_length]; rfl
  have hof := hoj (ordersL n').length
  rw [eof] at hof ⊢
  rw [← W_count hn htv]
  refine hs_frz 4 (ds := (ordersT n' t).map dI) rfl ?_
  have hbl : (barsL n' t).length ≤ 20 := by
    refine Nat.le_trans (List.length_filter_le _ _) ?_
    have h1 := (bySize_lots n' hn).length_eq
    have h2 := lotsL_len n' hn
    unfold bySizeL
    omega
  have hbo := bars_orders hn htq
  have tdt := TD_tuple hts
  have tdl := TD_list hts
  -- an order or a bar
  refine hs_then (hs_set 9 (dN (dfz (dcall Gbars hr (acons (dvar 1) (acons (dwh (dvar 2) (NK_eP t)) anil)) ⟨n', t, hn, rfl, htv, rfl⟩))) sc_law_right.nd) ?_
  refine hs_then (hs_if (b := false) (deqP (tC (cneB (dC (ceqD hr (dvar 9) (dlst (ds := []) anil) (sh_lots _) sh_nil)) (dC (cneD hr (dvar 4) (dlst (ds := []) anil) (sh_lots _) sh_nil)))) (by
    rw [eqv_nil, eqv_nil]
    have : (barsL n' t).isEmpty = !(ordersT n' t).isEmpty := by
      rw [Bool.eq_iff_iff, List.isEmpty_iff, hbo]
      cases ordersT n' t <;> simp
    rw [this]
    simp)) (fun z => by cases z) fun _ => hs_nil) ?_
  -- orders, counts, the bar
  let g5 : List PyData := [.list ((ordersT n' t).map dI), .list ((ordersT n' t).map dI), .int (W t n' (fullL n')), .int (W t n' (fullL n')), barD n' t]
  have hbar : Sp_law_heard [.pu (.int 1), .pu (.int n'), .pu (.tuple (t.map eP))] (.pu (barD n' t)) := by
    refine ⟨1, _, _, rfl, .inr (.inl ⟨rfl, ?_⟩)⟩
    have hh := barL_head (n := n') t
    unfold barD
    cases hq : barsL n' t with
    | nil => exact .inr ⟨⟨n', _, t, hn, rfl, tdt, htv, by rw [hh, hq]; rfl⟩, rfl⟩
    | cons l r => exact .inl ⟨n', _, t, l, hn, rfl, tdt, htv, by rw [hh, hq]; rfl, rfl⟩
  refine hs_then (hs_set 10 (s := .pu (.list g5)) (dN (dlst (ds := g5) (acons (dfz (dcall Got hr (acons (dvar 1) (acons (dwh (dvar 2) (NK_eP t)) anil)) ⟨n', _, t, hn, rfl, tdt, htv, rfl⟩))
    (acons (dfz (dcall Got hr (acons (dvar 1) (acons (dV (dcall Gli hr (acons (dwh (dvar 2) (NK_eP t)) anil) ⟨_, _, rfl, LO_told hts, rfl⟩)) anil)) ⟨n', _, t, hn, rfl, tdl, htv, rfl⟩))
    (acons (dV (dcall Gma hr (acons (dvar 1) (acons (dwh (dvar 2) (NK_eP t)) anil)) ⟨n', _, t, hn, rfl, tdt, htv, rfl⟩))
    (acons (dV (dcall Gma hr (acons (dvar 1) (acons (dV (dcall Gli hr (acons (dwh (dvar 2) (NK_eP t)) anil) ⟨_, _, rfl, LO_told hts, rfl⟩)) anil)) ⟨n', _, t, hn, rfl, tdl, htv, rfl⟩))
    (acons (dV (dcall Ghe hr (acons dint (acons (dvar 1) (acons (dwh (dvar 2) (NK_eP t)) anil))) hbar)) anil))))) (by simp [g5]))) sc_law_right.nd) ?_
  have sdb : SD 5 (barD n' t) := by
    unfold barD
    cases hq : barsL n' t with
    | nil => exact SD_cannot 4
    | cons l r =>
      have := (lots_ne n' hn l (bars_mem hn (by rw [hq]; exact List.mem_cons_self))).2.1
      exact SD_dI 4 (by omega)
  have sdo : SD 5 (.list ((ordersT n' t).map dI)) := SD_lots 3 (by omega) fun l hl => by
    have := orders_len n' hn l (List.mem_filter.mp hl).1
    omega
  have sd5 : SD 6 (.list g5) := SD_list (by simp [g5]) fun e he => by
    simp only [g5, List.mem_cons, List.not_mem_nil, or_false] at he
    rcases he with rfl | rfl | rfl | rfl | rfl
    · exact sdo
    · exact sdo
    · exact SD_int _ _
    · exact SD_int _ _
    · exact sdb
  refine hs_then (hs_if (b := false) (tnot (b := true) (tcmp (dV (dcall (ss := [.pu (.list g5), .pu (.list g5)]) Gsame hr (acons (dvar 10) (acons (dlst (ds := g5) (acons (dvar 4) (acons (dvar 4) (acons (dvar 3) (acons (dvar 3) (acons (dif (c := !(barsL n' t).isEmpty) (deqP (tC (cneD hr (dvar 9) (dlst (ds := []) anil) (sh_lots _) sh_nil)) (by rw [eqv_nil])) (fun hb => ?_) fun hb => ?_) anil))))) (by simp [g5])) anil)) ⟨_, rfl, sd5, rfl⟩)))) (fun z => by cases z) fun _ => hs_nil) ?_
  · unfold barD
    cases hq : barsL n' t with
    | nil => rw [hq] at hb; cases hb
    | cons l r => exact dixd (ds := (l :: r).map dI) (d := dI l) (dvar 9) dint (atI_head rfl)
  · unfold barD
    cases hq : barsL n' t with
    | nil => exact dlst (ds := [.str "cannot"]) (acons dstr anil)
    | cons l r => rw [hq] at hb; cases hb
  -- things
  have c1 : cutD ((barsL n' t).map dI) none (some 1) = ((barsL n' t).take 1).map dI := cutT dI (barsL n' t) 1
  refine hs_cons (hs_setU 11 0 (P := fun d => ∃ ls : List Lot, d = .list (ls.map dI) ∧ (∀ l ∈ ls, l ∈ lotsL n') ∧ 3 ≤ ls.length ∧ ls.length ≤ 4) rfl (ucat 0 rfl (fun d hd => ?_) (ulc (c := 1) 12 0 PyData.int (xs := rng 0 3) rfl sc_law_right.nd (irange1 M.range_ (acons dint anil) (by omega)) (fun z q _ hq => ucall Gof hr (acons (dvar 0) (acons (dfz (dcall Glot hr (acons (dvar 1) (acons dint anil)) ⟨n', hn, rfl, rfl⟩)) anil)) (by rw [rng_length] at hq; omega) ⟨_, rfl, ?_, ?_⟩) (by rw [rng_length]; omega)) (deqT (dsliceL (dvar 9) onone (osome dint)) (by rw [c1]))) sc_law_right.nd) ?_
  · obtain ⟨ds, rfl, hdl, hP⟩ := hd
    have : ∃ ls : List Lot, ds = ls.map dI ∧ ∀ l ∈ ls, l ∈ lotsL n' := by
      clear hdl
      induction ds with
      | nil => exact ⟨[], rfl, fun _ h => by cases h⟩
      | cons d ds ih =>
        obtain ⟨ls, rfl, hls⟩ := ih fun e he => hP e (List.mem_cons_of_mem _ he)
        obtain ⟨es, ees, hd⟩ := hP d List.mem_cons_self
        injection ees with ees _
        injection ees with ees
        injection ees with ees
        subst ees
        obtain ⟨l, hl, rfl⟩ := List.mem_map.mp hd
        exact ⟨l :: ls, rfl, fun m hm => by
          rcases List.mem_cons.mp hm with z | z
          · rw [z]; exact hl
          · exact hls m z⟩
    obtain ⟨ls, rfl, hls⟩ := this
    rw [rng_length, List.length_map] at hdl
    refine ⟨_, rfl, by rw [List.length_map, List.length_map, List.length_take]; omega, ls ++ (barsL n' t).take 1, by rw [List.map_append], fun l hl => ?_, by rw [List.length_append]; omega, by rw [List.length_append, List.length_take]; omega⟩
    rcases List.mem_append.mp hl with z | z
    · exact hls l z
    · exact bars_mem hn (List.mem_of_mem_take z)
  · rw [Ne, List.map_eq_nil_iff]
    intro z
    have := (lots_full n' hn).2.2.2
    rw [z] at this
    cases this
  · rw [List.length_map]
    have := lotsL_len n' hn
    omega
  rintro ρ' ⟨d, ⟨ls, rfl, hls, hl3, hl4⟩, rfl⟩
  match ls, hls, hl3, hl4 with
  | l0 :: lr, hls, hl3, hl4 =>
  have hl0 := hls l0 List.mem_cons_self
  obtain ⟨hi1, hi2, hi3, hi4⟩ := lots_incr n' hn l0 hl0
  let gb : List PyData := ((l0 :: lr).map fun l => .bool (decide (l ∈ barsL n' t))) ++ [.bool false, .bool false, .bool false]
  have tsl : ∀ l ∈ l0 :: lr, l.length ≤ 100 ∧ ∀ a ∈ l, 0 ≤ a := fun l hl => by
    have := lots_incr n' hn l (hls l hl)
    exact ⟨by omega, this.2.2.2⟩
  have ct : cutD (l0.map PyData.int) none (some 1) = (l0.take 1).map .int := cutT PyData.int l0 1
  refine hs_then (hs_set 10 (s := .pu (.list gb)) (dN (dcat (ds := (l0 :: lr).map fun l => .bool (decide (l ∈ barsL n' t))) (es := [.bool false, .bool false, .bool false]) (deqT (dfz (dlc1 (α := Lot) 13 dI (fun _ => true) (fun l => .bool (decide (l ∈ barsL n' t))) (xs := l0 :: lr) sc_law_right.nd (iseq (dvar 11)) (fun _ _ => pts0) (fun l hl _ => deqT (dV (dcall Gib hr (acons (dwh (dvar 2) (NK_eP t)) (acons (dvar 13) anil)) ⟨_, t, l, tdt, hts, (tsl l hl).1, (tsl l hl).2, .inl ⟨rfl, rfl⟩⟩)) (by rw [isBarT_lot hn t (hls l hl)])) (by omega))) (by rw [filt_true]))
    (dlst (ds := [.bool false, .bool false, .bool false]) (acons (dV (dcall Gib hr (acons (dV (dcall Gli hr (acons (dwh (dvar 2) (NK_eP t)) anil) ⟨_, _, rfl, LO_told hts, rfl⟩)) (acons (dfz (dlistN M.list_ (dixd (ds := (l0 :: lr).map dI) (d := dI l0) (dvar 11) dint (atI_head rfl)))) anil)) ⟨_, t, l0, tdl, hts, (tsl l0 List.mem_cons_self).1, (tsl l0 List.mem_cons_self).2, .inr ⟨rfl, rfl⟩⟩))
      (acons (deqT (dV (dcall Gib hr (acons (dwh (dvar 2) (NK_eP t)) (acons (deqT (s' := .pu (dI l0.reverse)) (drevT (dixd (ds := (l0 :: lr).map dI) (d := dI l0) (dvar 11) dint (atI_head rfl)) (by rw [List.length_map]; exact hi3)) (by rw [dI, List.map_reverse])) anil)) ⟨_, t, l0.reverse, tdt, hts, by rw [List.length_reverse]; omega, fun a ha => hi4 a (List.mem_reverse.mp ha), .inl ⟨rfl, rfl⟩⟩)) (by rw [isBarT_rev hn t hl0]))
      (acons (deqT (dV (dcall Gib hr (acons (dwh (dvar 2) (NK_eP t)) (acons (deqT (s' := .pu (dI (l0.take 1))) (dsliceT (dixd (ds := (l0 :: lr).map dI) (d := dI l0) (dvar 11) dint (atI_head rfl)) onone (osome dint)) (by rw [ct])) anil)) ⟨_, t, l0.take 1, tdt, hts, by rw [List.length_take]; omega, fun a ha => hi4 a (List.mem_of_mem_take ha), .inl ⟨rfl, rfl⟩⟩)) (by rw [isBarT_one])) anil))) (by simp)) (by rw [List.length_map]; simp at hl4 ⊢; omega))) sc_law_right.nd) ?_
  have sdg : SD 6 (.list gb) := SD_list (by simp [gb] at hl4 ⊢; omega) fun e he => by
    rcases List.mem_append.mp he with z | z
    · exact SD_map (fun _ _ => SD_bool _ _) e z
    · simp only [List.mem_cons, List.not_mem_nil, or_false] at z
      rcases z with rfl | rfl | rfl <;> exact SD_bool _ _
  refine hs_then (hs_if (b := false) (tnot (b := true) (tcmp (dV (dcall (ss := [.pu (.list gb), .pu (.list gb)]) Gsame hr (acons (dvar 10) (acons (dcat (ds := (l0 :: lr).map fun l => .bool (decide (l ∈ barsL n' t))) (es := [.bool false, .bool false, .bool false]) (deqT (dfz (dlc1 (α := Lot) 13 dI (fun _ => true) (fun l => .bool (decide (l ∈ barsL n' t))) (xs := l0 :: lr) sc_law_right.nd (iseq (dvar 11)) (fun _ _ => pts0) (fun l hl _ => deqT (dC (cinD hr (dvar 13) (dvar 9) (sh_dI l) (sh_lots _))) (by rw [any_lot])) (by omega))) (by rw [filt_true]))
    (drep (dlst (ds := [.bool false]) (acons dbl anil) (by simp)) dint (by omega) (by simp)) (by rw [List.length_map]; simp at hl4 ⊢; omega)) anil)) ⟨_, rfl, sdg, rfl⟩)))) (fun z => by cases z) fun _ => hs_nil) ?_
  -- sure picks
  have hsl : (sortT n' (sureL n' t)).length ≤ 1000 := by
    unfold sortT
    refine Nat.le_trans (List.length_filterMap_le _ _) ?_
    have := lotsL_len n' hn
    omega
  have hsn : ((sortT n' (sureL n' t)).filter fun p => !(tGet t p.1).isSome && decide ((2 : Int) < (p.1.length : Int))) = [] := List.filter_eq_nil_iff.mpr fun p hp z => by
    rw [sure_pairs hn t hp] at z
    cases z
  have slot : ∀ p ∈ sortT n' (sureL n' t), p.1 ≠ [] := fun p hp => by
    unfold sortT at hp
    rw [List.mem_filterMap] at hp
    obtain ⟨l, hl, e⟩ := hp
    cases h1 : tGet (sureL n' t) l with
    | none => rw [h1] at e; cases e
    | some x => rw [h1] at e; cases e; exact (lots_ne n' hn l hl).1
  refine hs_then (hs_if (b := false) (PW.pt (deqW (tand2 (c := !(ordersT n' t).isEmpty) (c2 := false) (deqP (tC (cneD hr (dvar 4) (dlst (ds := []) anil) (sh_lots _) sh_nil)) (by rw [eqv_nil])) fun h => tand1 (deqP (tC (cneD hr (dfz (dlc2 (α := Lot × Int) 6 7 eP (fun p => dI p.1) (fun p => .int p.2) (fun p => !(tGet t p.1).isSome && decide ((2 : Int) < (p.1.length : Int))) (fun _ => .int 1) (xs := sortT n' (sureL n' t)) sc_law_right.nd
      (iseq (dV (dcallX Gs hr (acons (dvar 1) (acons (dwh (dvar 2) (NK_eP t)) anil)) ⟨n', _, t, hn, rfl, tdt, htv, fun z => ?_, rfl⟩))) (fun _ _ => rfl)
      (fun p hp => pts_one (PW.pt (tand2 (deqP (tC (cdnin' hr (dkey (dvar 6) (slot p hp)) (dV (ddict (kvs := t.map kvP) hr rfl M.dict_ (deqT (dvar 2) (by rw [ekv])) kt.1 kt.2.1 kt.2.2)))) (by rw [dget_kv]; cases tGet t p.1 <;> rfl)) fun _ => tand1 (deqP (tC (cgt (dlen M.len_ (dvar 6)) dint)) (by rw [List.length_map]))))) (fun _ _ _ => dint) hsl)) (dlst (ds := []) anil) (sh_ones _) sh_nil)) (by rw [eqv_nil1, hsn]; rfl))) (by simp))) (fun z => by cases z) fun _ => hs_nil) ?_
  · rw [z] at h; cases h
  -- two, three areas
  refine hs_one (hs_ret (dN (deqT (s' := .pu (.bool true)) (dor2 (c := decide ((n' : Int) = 4)) (c2 := true) (dC (ceqI (dvar 1) dint)) fun h => done1 (dV (dcall Gsm hr (acons (dvar 1) (acons (dvar 2) anil)) ⟨n', t, ?_, htq, rfl, rfl⟩))) (by simp))) ⟨_, rfl, rfl, .inl ⟨_, ?_, rfl⟩⟩)
  · have := of_decide_eq_false h
    simp at hn ⊢
    omega
  · rw [rng_length]
    omega
end
end GY
namespace GY
open PySem PySem.Spec PyProof.Rows L2 PySem.W

/-! ## law -/
theorem dropA_none {H : Hp} {a : Addr} (h : H a = none) : dropA H a = H := by
  funext b
  by_cases hb : b = a
  · subst hb; rw [dropA_same, h]
  · rw [dropA_ne hb]
section
variable {X : Cx} {e e1 e2 : Expr} {pos : Pos} {B : Bs} {ρ : List Sl} {a : Addr} {ns : List Int} {k : Nat} {ps : List Str} {x : Str} {p : Pos}
theorem dcallC (G : Cal X.prog X.w X.K X.mg X.base CX0 k x ps (spC X.w X.K)) (hr : Room k X.A) (hs : SqL X.K B.2 a (ns.map V.int)) (hn : ns.length ≤ 63)
    (ha : PA X (e1 :: [e2]) (tA X.w B ρ [.ad (.ref a), .pu (.int 1)])) (hg : Gl X x := by rfl) (hdb : (x == ("__debug__" : Str)) = false := by decide) (he : starEach (e1 :: [e2]) X.env = (false, eval e1 X.env) :: starEach [e2] X.env := by rfl)
    (hpl : (backTo pos (starEach [e2] X.env)).any (·.1) = false := by rfl) : PE X (.Call (.Name x p) (e1 :: [e2]) [] pos) (tN X.w B ρ (.ol [.int (cellsF ns)])) := by
  obtain ⟨f, fd, hm, hk, hb, G⟩ := G
  exact weakE (pe_call G hr hg hm hk hb .nil pass0 ha hdb he hpl) fun σ H Q ⟨F, as, q⟩ => ⟨F, as, fun vs F1 H1 g o => by
    show spC X.w X.K (vs ++ []) H1 Q E0
    rw [List.append_nil]
    obtain ⟨v, u, ev, o1, o2⟩ := VsOk.two o
    have e1 : v = .ref a := o1
    have e2 := Rp.int_inv o2
    subst e1 e2
    exact ⟨a, ns, F1, ev, hn, g.fh, sql_mono (as.gr.h.trans g.h) hs, fun v F2 H2 g2 o2 n => q v F2 H2 (g.trans g2) o2 fun c oc ec => g.h.free (n c ec)⟩⟩
/-- a def that draws, called with a new urn -/
theorem dcallN {c : Nat} {Pre : List Sl → Prop} {Post : List Sl → PyData → Prop} {d0 : PyData} {y z : Int} (G : Cal X.prog X.w X.K X.mg X.base CX0 k x ps (spU X.w c Pre Post)) (hr : Room k X.A) (hc : c ≤ 2 ^ 62) (hp : Pre []) (hpost : ∀ d, Post [] d → d = d0)
    (he : PE X e (tN X.w B ρ (.ol [.int y, .int z, .int 0]))) (hz : 0 ≤ z ∧ z < 2 ^ 62) (hg : Gl X x := by rfl) (hdb : (x == ("__debug__" : Str)) = false := by decide) (hst : starEach (e :: []) X.env = (false, eval e X.env) :: starEach [] X.env := by rfl)
    (hpl : (backTo pos (starEach [] X.env)).any (·.1) = false := by rfl) : PE X (.Call (.Name x p) (e :: []) [] pos) (tV X.w B ρ (.pu d0)) := by
  obtain ⟨f, fd, hm, hk, hb, G⟩ := G
  exact weakE (pe_call G hr hg hm hk hb .nil pass0 (pa_cons he pa_nil hst) hdb hst hpl) fun σ H Q ⟨F, as, q⟩ => ⟨F, as, fun v F1 H1 g o n => by
    show spU X.w c Pre Post ([v] ++ []) H1 Q E0
    obtain ⟨a, xs, ev, fa, ha, r⟩ := id o
    have ex := r.ints (ns := [y, z, 0])
    subst ex
    refine ⟨F1, a, 0, [], g.fh, .cons ⟨y, z, 0, ev, fa, ha, hz, by omega, by omega⟩ .nil, by omega, hp, fun d v2 F2 H2 hd g2 ok od => ?_⟩
    have hna : H a = none := n a rfl ev
    have g3 := (Gr.dropH (a := a) g).transU g2
    rw [dropA_none hna] at g3
    rw [hpost d hd] at od
    exact q v2 F2 H2 g3 od⟩
end
def spL (w : World) (K : PySem.W.Frag) : Sp := fun vs H Q _ => ∃ (a : Addr) (ns : List Int), vs = [.ref a] ∧ ns.length ≤ 63 ∧ SqL K H a (ns.map V.int) ∧ ∀ H', Q (.bl true) H'
section
variable {P : Program} {w : World} {K : PySem.W.Frag} {mg : Str → Option Value} {base : Heap} {f : Addr} {fd : FuncData} {k : Nat}
theorem ok_law (Gh : Cal P w K mg base CX0 k "_law_by_hand_right" [] (spS w Sp_law_by_hand_right)) (Gc : Cal P w K mg base CX0 k "_law_cells" ["_law_script", "_law_top"] (spC w K)) (Gb : Cal P w K mg base CX0 k "_law_box" ["_law_script", "_law_k"] (spS w Sp_law_box))
    (Gr_ : Cal P w K mg base CX0 k "_law_right" ["_law_urn"] (spU w 28 Pre_law_right Post_law_right)) (F : Fun K "law" "law" s_law f fd) : FnOk P w K mg base CX0 (k + 1) f fd ["_law_script"] (spL w K) := by
  refine F.ok sc_law (fun vs H Q E h => by obtain ⟨a, ns, e, _⟩ := h; rw [e]; rfl) (fun cdv A outer sh H vs Q E hr h => ?_)
  obtain ⟨a, ns, e, hn, hsq, q⟩ := h
  subst e
  have f0 : Same (fun _ => none : Hp) H := fun b o z => by cases z
  have r0 : VsOk w (fun _ => none) H [.ref a] [.ad (.ref a)] := .cons rfl .nil
  have hsK : SqL (cxOf CX0 P w K mg base n_law "law" (defScope s_law) f cdv A outer sh H E).nox.K (((fun _ => none), H) : Bs).2 a (ns.map V.int) := hsq
  suffices body : PSs (cxOf CX0 P w K mg base n_law "law" (defScope s_law) f cdv A outer sh H E).nox (defBody s_law) (tH w ((fun _ => none), H) (atN n_law [.ad (.ref a)]) (fun _ => False) (fun s' _ => s' = .pu (.bool true))) from
    ⟨_, body, _, as_start f0 r0 (fun s h => by simp at h; rw [h]; rfl), fun _ _ _ _ _ z => z.elim, fun F' s' v ρ' σ' H' es as o n => by subst es; cases Rp.bool_inv o; exact q H'⟩
  refine hs_then (hs_if (b := false) (tnot (b := true) (tcmp (dV (dcall0 Gh hr ⟨rfl, rfl⟩)))) (fun z => by cases z) fun _ => hs_nil) ?_
  exact hs_one (hs_ret (dN (dcallN Gr_ hr (by omega) rfl (fun d hd => hd) (dcall Gb hr (acons (dfz (dcallC Gc hr hsK hn (acons (dvar 0) (acons dint anil)))) (acons dint anil)) ⟨_, rfl, rfl⟩) (boxB_ok _))) rfl)
end
end GY
namespace GY
open PySem PySem.Spec PyProof.Rows L2 PySem.W

/-! ## all defs together (written by mkasm.py) -/
def Gd (K : PySem.W.Frag) (mg : Str → Option Value) (x : Str) (st : Stmt) : Prop := ∃ f fd, mg x = some (.ref f) ∧ Fun K x x st f fd
theorem all_ok {P : Program} {w : World} {K : PySem.W.Frag} {mg : Str → Option Value} {base : Heap} {C : Addr} (M : Mg mg) (cn : CN K mg C)
    (h_is_number : Gd K mg "is_number" s_is_number)
    (h_tuple_of : Gd K mg "tuple_of" s_tuple_of)
    (h_all_areas : Gd K mg "all_areas" s_all_areas)
    (h_rows_within : Gd K mg "rows_within" s_rows_within)
    (h_leads_in : Gd K mg "leads_in" s_leads_in)
    (h_flooded : Gd K mg "flooded" s_flooded)
    (h_turned : Gd K mg "turned" s_turned)
    (h_closed_in : Gd K mg "closed_in" s_closed_in)
    (h_first_lot : Gd K mg "first_lot" s_first_lot)
    (h_lots_of : Gd K mg "lots_of" s_lots_of)
    (h_lies_in : Gd K mg "lies_in" s_lies_in)
    (h_fits : Gd K mg "fits" s_fits)
    (h_first_in : Gd K mg "first_in" s_first_in)
    (h_orders_told : Gd K mg "orders_told" s_orders_told)
    (h_lot_within : Gd K mg "lot_within" s_lot_within)
    (h_ways_of : Gd K mg "ways_of" s_ways_of)
    (h_goods_many : Gd K mg "goods_many" s_goods_many)
    (h_sure_picks : Gd K mg "sure_picks" s_sure_picks)
    (h_is_barred : Gd K mg "is_barred" s_is_barred)
    (h_bar : Gd K mg "bar" s_bar)
    (h_is_bar : Gd K mg "is_bar" s_is_bar)
    (h_most_left : Gd K mg "most_left" s_most_left)
    (h_best_ask : Gd K mg "best_ask" s_best_ask)
    (h_chain_in : Gd K mg "chain_in" s_chain_in)
    (h_chain_of : Gd K mg "chain_of" s_chain_of)
    (h_width : Gd K mg "width" s_width)
    (h__law_box : Gd K mg "_law_box" s_law_box)
    (h__law_take : Gd K mg "_law_take" s_law_take)
    (h__law_cells : Gd K mg "_law_cells" s_law_cells)
    (h__law_of : Gd K mg "_law_of" s_law_of)
    (h__law_same : Gd K mg "_law_same" s_law_same)
    (h__law_lists : Gd K mg "_law_lists" s_law_lists)
    (h__law_lots : Gd K mg "_law_lots" s_law_lots)
    (h__law_heard : Gd K mg "_law_heard" s_law_heard)
    (h__law_all_rules : Gd K mg "_law_all_rules" s_law_all_rules)
    (h__law_orders : Gd K mg "_law_orders" s_law_orders)
    (h__law_by_hand_right : Gd K mg "_law_by_hand_right" s_law_by_hand_right)
    (h__law_first : Gd K mg "_law_first" s_law_first)
    (h__law_goes : Gd K mg "_law_goes" s_law_goes)
    (h__law_bars : Gd K mg "_law_bars" s_law_bars)
    (h__law_told : Gd K mg "_law_told" s_law_told)
    (h__law_small_right : Gd K mg "_law_small_right" s_law_small_right)
    (h__law_right : Gd K mg "_law_right" s_law_right)
    {f_law : Addr} {fd_law : FuncData} (F_law : Fun K "law" "law" s_law f_law fd_law) : FnOk P w K mg base CX0 14 f_law fd_law ["_law_script"] (spL w K) := by
  obtain ⟨f_is_number, fd_is_number, m_is_number, F_is_number⟩ := h_is_number
  have b_is_number : Binds K fd_is_number ["thing"] [] := F_is_number.binds fun _ _ _ _ _ _ us hl => match us, hl with | [_], _ => rfl
  have C_is_number : Cal P w K mg base CX0 1 "is_number" ["thing"] (spS w Sp_is_number) := ⟨f_is_number, fd_is_number, m_is_number, F_is_number.kp, b_is_number, ok_is_number M F_is_number⟩
  obtain ⟨f_tuple_of, fd_tuple_of, m_tuple_of, F_tuple_of⟩ := h_tuple_of
  have b_tuple_of : Binds K fd_tuple_of ["thing"] [] := F_tuple_of.binds fun _ _ _ _ _ _ us hl => match us, hl with | [_], _ => rfl
  have C_tuple_of1 : Cal P w K mg base CX0 2 "tuple_of" ["thing"] (spS w (Sp_tuple_of 1)) := ⟨f_tuple_of, fd_tuple_of, m_tuple_of, F_tuple_of.kp, b_tuple_of, ok_tuple_of M m_tuple_of F_tuple_of.kp b_tuple_of F_tuple_of 1⟩
  have C_tuple_of : Cal P w K mg base CX0 4 "tuple_of" ["thing"] (spS w (Sp_tuple_of 3)) := ⟨f_tuple_of, fd_tuple_of, m_tuple_of, F_tuple_of.kp, b_tuple_of, ok_tuple_of M m_tuple_of F_tuple_of.kp b_tuple_of F_tuple_of 3⟩
  obtain ⟨f_all_areas, fd_all_areas, m_all_areas, F_all_areas⟩ := h_all_areas
  have b_all_areas : Binds K fd_all_areas ["rule"] [] := F_all_areas.binds fun _ _ _ _ _ _ us hl => match us, hl with | [_], _ => rfl
  have C_all_areas : Cal P w K mg base CX0 1 "all_areas" ["rule"] (spS w Sp_all_areas) := ⟨f_all_areas, fd_all_areas, m_all_areas, F_all_areas.kp, b_all_areas, ok_all_areas M F_all_areas⟩
  obtain ⟨f_rows_within, fd_rows_within, m_rows_within, F_rows_within⟩ := h_rows_within
  have b_rows_within : Binds K fd_rows_within ["rule", "lot"] [] := F_rows_within.binds fun _ _ _ _ _ _ us hl => match us, hl with | [_, _], _ => rfl
  have C_rows_within : Cal P w K mg base CX0 5 "rows_within" ["rule", "lot"] (spS w Sp_rows_within) := ⟨f_rows_within, fd_rows_within, m_rows_within, F_rows_within.kp, b_rows_within, ok_rows_within M (C_tuple_of.mono (by decide)) F_rows_within⟩
  obtain ⟨f_leads_in, fd_leads_in, m_leads_in, F_leads_in⟩ := h_leads_in
  have b_leads_in : Binds K fd_leads_in ["rule", "lot"] [] := F_leads_in.binds fun _ _ _ _ _ _ us hl => match us, hl with | [_, _], _ => rfl
  have C_leads_in : Cal P w K mg base CX0 6 "leads_in" ["rule", "lot"] (spS w Sp_leads_in) := ⟨f_leads_in, fd_leads_in, m_leads_in, F_leads_in.kp, b_leads_in, ok_leads_in M (C_rows_within.mono (by decide)) F_leads_in⟩
  obtain ⟨f_flooded, fd_flooded, m_flooded, F_flooded⟩ := h_flooded
  have b_flooded : Binds K fd_flooded ["pairs", "area"] [] := F_flooded.binds fun _ _ _ _ _ _ us hl => match us, hl with | [_, _], _ => rfl
  have C_flooded : Cal P w K mg base CX0 1 "flooded" ["pairs", "area"] (spS w Sp_flooded) := ⟨f_flooded, fd_flooded, m_flooded, F_flooded.kp, b_flooded, ok_flooded M F_flooded⟩
  obtain ⟨f_turned, fd_turned, m_turned, F_turned⟩ := h_turned
  have b_turned : Binds K fd_turned ["pairs"] [] := F_turned.binds fun _ _ _ _ _ _ us hl => match us, hl with | [_], _ => rfl
  have C_turned : Cal P w K mg base CX0 1 "turned" ["pairs"] (spS w Sp_turned) := ⟨f_turned, fd_turned, m_turned, F_turned.kp, b_turned, ok_turned M F_turned⟩
  obtain ⟨f_closed_in, fd_closed_in, m_closed_in, F_closed_in⟩ := h_closed_in
  have b_closed_in : Binds K fd_closed_in ["rule", "lot"] [] := F_closed_in.binds fun _ _ _ _ _ _ us hl => match us, hl with | [_, _], _ => rfl
  have C_closed_in : Cal P w K mg base CX0 7 "closed_in" ["rule", "lot"] (spS w Sp_closed_in) := ⟨f_closed_in, fd_closed_in, m_closed_in, F_closed_in.kp, b_closed_in, ok_closed_in M (C_leads_in.mono (by decide)) (C_turned.mono (by decide)) (C_flooded.mono (by decide)) F_closed_in⟩
  obtain ⟨f_first_lot, fd_first_lot, m_first_lot, F_first_lot⟩ := h_first_lot
  have b_first_lot : Binds K fd_first_lot ["rule", "lot"] [] := F_first_lot.binds fun _ _ _ _ _ _ us hl => match us, hl with | [_, _], _ => rfl
  have C_first_lot : Cal P w K mg base CX0 8 "first_lot" ["rule", "lot"] (spS w Sp_first_lot) := ⟨f_first_lot, fd_first_lot, m_first_lot, F_first_lot.kp, b_first_lot, ok_first_lot (C_closed_in.mono (by decide)) F_first_lot⟩
  obtain ⟨f_lots_of, fd_lots_of, m_lots_of, F_lots_of⟩ := h_lots_of
  have b_lots_of : Binds K fd_lots_of ["m"] [] := F_lots_of.binds fun _ _ _ _ _ _ us hl => match us, hl with | [_], _ => rfl
  have C_lots_of : Cal P w K mg base CX0 1 "lots_of" ["m"] (spS w Sp_lots_of) := ⟨f_lots_of, fd_lots_of, m_lots_of, F_lots_of.kp, b_lots_of, ok_lots_of M F_lots_of⟩
  obtain ⟨f_lies_in, fd_lies_in, m_lies_in, F_lies_in⟩ := h_lies_in
  have b_lies_in : Binds K fd_lies_in ["lot", "lots"] [] := F_lies_in.binds fun _ _ _ _ _ _ us hl => match us, hl with | [_, _], _ => rfl
  have C_lies_in : Cal P w K mg base CX0 1 "lies_in" ["lot", "lots"] (spS w Sp_lies_in) := ⟨f_lies_in, fd_lies_in, m_lies_in, F_lies_in.kp, b_lies_in, ok_lies_in M F_lies_in⟩
  obtain ⟨f_fits, fd_fits, m_fits, F_fits⟩ := h_fits
  have b_fits : Binds K fd_fits ["told", "rule"] [] := F_fits.binds fun _ _ _ _ _ _ us hl => match us, hl with | [_, _], _ => rfl
  have C_fits : Cal P w K mg base CX0 5 "fits" ["told", "rule"] (spS w Sp_fits) := ⟨f_fits, fd_fits, m_fits, F_fits.kp, b_fits, ok_fits M (C_tuple_of.mono (by decide)) F_fits⟩
  obtain ⟨f_first_in, fd_first_in, m_first_in, F_first_in⟩ := h_first_in
  have b_first_in : Binds K fd_first_in ["order", "lot"] [] := F_first_in.binds fun _ _ _ _ _ _ us hl => match us, hl with | [_, _], _ => rfl
  have C_first_in : Cal P w K mg base CX0 1 "first_in" ["order", "lot"] (spS w Sp_first_in) := ⟨f_first_in, fd_first_in, m_first_in, F_first_in.kp, b_first_in, ok_first_in F_first_in⟩
  obtain ⟨f_orders_told, fd_orders_told, m_orders_told, F_orders_told⟩ := h_orders_told
  have b_orders_told : Binds K fd_orders_told ["m", "told"] [] := F_orders_told.binds fun _ _ _ _ _ _ us hl => match us, hl with | [_, _], _ => rfl
  have C_orders_told : Cal P w K mg base CX0 5 "orders_told" ["m", "told"] (spS w Sp_orders_told) := ⟨f_orders_told, fd_orders_told, m_orders_told, F_orders_told.kp, b_orders_told, ok_orders_told M (C_first_in.mono (by decide)) (C_tuple_of.mono (by decide)) F_orders_told⟩
  obtain ⟨f_lot_within, fd_lot_within, m_lot_within, F_lot_within⟩ := h_lot_within
  have b_lot_within : Binds K fd_lot_within ["lots", "area", "own", "whole"] [] := F_lot_within.binds fun _ _ _ _ _ _ us hl => match us, hl with | [_, _, _, _], _ => rfl
  have C_lot_within : Cal P w K mg base CX0 1 "lot_within" ["lots", "area", "own", "whole"] (spS w Sp_lot_within) := ⟨f_lot_within, fd_lot_within, m_lot_within, F_lot_within.kp, b_lot_within, ok_lot_within M F_lot_within⟩
  obtain ⟨f_ways_of, fd_ways_of, m_ways_of, F_ways_of⟩ := h_ways_of
  have b_ways_of : Binds K fd_ways_of ["m", "told"] [] := F_ways_of.binds fun _ _ _ _ _ _ us hl => match us, hl with | [_, _], _ => rfl
  have C_ways_of : Cal P w K mg base CX0 2 "ways_of" ["m", "told"] (spS w Sp_ways_of) := ⟨f_ways_of, fd_ways_of, m_ways_of, F_ways_of.kp, b_ways_of, ok_ways_of M (C_lots_of.mono (by decide)) (C_lot_within.mono (by decide)) F_ways_of⟩
  obtain ⟨f_goods_many, fd_goods_many, m_goods_many, F_goods_many⟩ := h_goods_many
  have b_goods_many : Binds K fd_goods_many ["m", "told"] [] := F_goods_many.binds fun _ _ _ _ _ _ us hl => match us, hl with | [_, _], _ => rfl
  have C_goods_many : Cal P w K mg base CX0 5 "goods_many" ["m", "told"] (spS w Sp_goods_many) := ⟨f_goods_many, fd_goods_many, m_goods_many, F_goods_many.kp, b_goods_many, ok_goods_many M (C_ways_of.mono (by decide)) (C_tuple_of.mono (by decide)) F_goods_many⟩
  obtain ⟨f_sure_picks, fd_sure_picks, m_sure_picks, F_sure_picks⟩ := h_sure_picks
  have b_sure_picks : Binds K fd_sure_picks ["m", "told"] [] := F_sure_picks.binds fun _ _ _ _ _ _ us hl => match us, hl with | [_, _], _ => rfl
  have C_sure_picks : Cal P w K mg base (L2.CX P w) 6 "sure_picks" ["m", "told"] (spX w C Sp_sure_picks Rs_sure_picks) := ⟨f_sure_picks, fd_sure_picks, m_sure_picks, F_sure_picks.kp, b_sure_picks, ok_sure_picks M cn (C_first_in.mono (by decide)) (C_orders_told.mono (by decide)) (C_tuple_of.mono (by decide)) F_sure_picks⟩
  obtain ⟨f_is_barred, fd_is_barred, m_is_barred, F_is_barred⟩ := h_is_barred
  have b_is_barred : Binds K fd_is_barred ["told", "lot"] [] := F_is_barred.binds fun _ _ _ _ _ _ us hl => match us, hl with | [_, _], _ => rfl
  have C_is_barred : Cal P w K mg base CX0 2 "is_barred" ["told", "lot"] (spS w Sp_is_barred) := ⟨f_is_barred, fd_is_barred, m_is_barred, F_is_barred.kp, b_is_barred, ok_is_barred M (C_lies_in.mono (by decide)) F_is_barred⟩
  obtain ⟨f_bar, fd_bar, m_bar, F_bar⟩ := h_bar
  have b_bar : Binds K fd_bar ["m", "told"] [] := F_bar.binds fun _ _ _ _ _ _ us hl => match us, hl with | [_, _], _ => rfl
  have C_bar : Cal P w K mg base (L2.CX P w) 5 "bar" ["m", "told"] (spX w C Sp_bar Rs_bar) := ⟨f_bar, fd_bar, m_bar, F_bar.kp, b_bar, ok_bar M cn (C_is_barred.mono (by decide)) (C_tuple_of.mono (by decide)) F_bar⟩
  obtain ⟨f_is_bar, fd_is_bar, m_is_bar, F_is_bar⟩ := h_is_bar
  have b_is_bar : Binds K fd_is_bar ["told", "thing"] [] := F_is_bar.binds fun _ _ _ _ _ _ us hl => match us, hl with | [_, _], _ => rfl
  have C_is_bar : Cal P w K mg base CX0 5 "is_bar" ["told", "thing"] (spS w Sp_is_bar) := ⟨f_is_bar, fd_is_bar, m_is_bar, F_is_bar.kp, b_is_bar, ok_is_bar M (C_is_number.mono (by decide)) (C_is_barred.mono (by decide)) (C_tuple_of.mono (by decide)) F_is_bar⟩
  obtain ⟨f_most_left, fd_most_left, m_most_left, F_most_left⟩ := h_most_left
  have b_most_left : Binds K fd_most_left ["m", "told", "lot"] [] := F_most_left.binds fun _ _ _ _ _ _ us hl => match us, hl with | [_, _, _], _ => rfl
  have C_most_left : Cal P w K mg base CX0 6 "most_left" ["m", "told", "lot"] (spS w Sp_most_left) := ⟨f_most_left, fd_most_left, m_most_left, F_most_left.kp, b_most_left, ok_most_left M (C_goods_many.mono (by decide)) F_most_left⟩
  obtain ⟨f_best_ask, fd_best_ask, m_best_ask, F_best_ask⟩ := h_best_ask
  have b_best_ask : Binds K fd_best_ask ["m", "told"] [] := F_best_ask.binds fun _ _ _ _ _ _ us hl => match us, hl with | [_, _], _ => rfl
  have C_best_ask : Cal P w K mg base (L2.CX P w) 7 "best_ask" ["m", "told"] (spX w C Sp_best_ask Rs_best_ask) := ⟨f_best_ask, fd_best_ask, m_best_ask, F_best_ask.kp, b_best_ask, ok_best_ask M cn (C_lots_of.mono (by decide)) (C_most_left.mono (by decide)) (C_goods_many.mono (by decide)) (C_tuple_of.mono (by decide)) F_best_ask⟩
  obtain ⟨f_chain_in, fd_chain_in, m_chain_in, F_chain_in⟩ := h_chain_in
  have b_chain_in : Binds K fd_chain_in ["rule", "lot"] [] := F_chain_in.binds fun _ _ _ _ _ _ us hl => match us, hl with | [_, _], _ => rfl
  have C_chain_in : Cal P w K mg base CX0 9 "chain_in" ["rule", "lot"] (spS w Sp_chain_in) := ⟨f_chain_in, fd_chain_in, m_chain_in, F_chain_in.kp, b_chain_in, ok_chain_in M (C_tuple_of1.mono (by decide)) (C_first_lot.mono (by decide)) F_chain_in⟩
  obtain ⟨f_chain_of, fd_chain_of, m_chain_of, F_chain_of⟩ := h_chain_of
  have b_chain_of : Binds K fd_chain_of ["rule"] [] := F_chain_of.binds fun _ _ _ _ _ _ us hl => match us, hl with | [_], _ => rfl
  have C_chain_of : Cal P w K mg base CX0 10 "chain_of" ["rule"] (spS w Sp_chain_of) := ⟨f_chain_of, fd_chain_of, m_chain_of, F_chain_of.kp, b_chain_of, ok_chain_of (C_all_areas.mono (by decide)) (C_chain_in.mono (by decide)) F_chain_of⟩
  obtain ⟨f_width, fd_width, m_width, F_width⟩ := h_width
  have b_width : Binds K fd_width ["rule"] [] := F_width.binds fun _ _ _ _ _ _ us hl => match us, hl with | [_], _ => rfl
  have C_width : Cal P w K mg base CX0 11 "width" ["rule"] (spS w Sp_width) := ⟨f_width, fd_width, m_width, F_width.kp, b_width, ok_width M (C_chain_of.mono (by decide)) F_width⟩
  obtain ⟨f__law_box, fd__law_box, m__law_box, F__law_box⟩ := h__law_box
  have b__law_box : Binds K fd__law_box ["_law_script", "_law_k"] [] := F__law_box.binds fun _ _ _ _ _ _ us hl => match us, hl with | [_, _], _ => rfl
  have C__law_box : Cal P w K mg base CX0 1 "_law_box" ["_law_script", "_law_k"] (spS w Sp_law_box) := ⟨f__law_box, fd__law_box, m__law_box, F__law_box.kp, b__law_box, ok_law_box M F__law_box⟩
  obtain ⟨f__law_take, fd__law_take, m__law_take, F__law_take⟩ := h__law_take
  have b__law_take : Binds K fd__law_take ["_law_urn", "_law_low_so"] [] := F__law_take.binds fun _ _ _ _ _ _ us hl => match us, hl with | [_, _], _ => rfl
  have C__law_take : Cal P w K mg base CX0 1 "_law_take" ["_law_urn", "_law_low_so"] (spU w 1 Pre_take Post_take) := ⟨f__law_take, fd__law_take, m__law_take, F__law_take.kp, b__law_take, ok_law_take M F__law_take⟩
  obtain ⟨f__law_cells, fd__law_cells, m__law_cells, F__law_cells⟩ := h__law_cells
  have b__law_cells : Binds K fd__law_cells ["_law_script", "_law_top"] [] := F__law_cells.binds fun _ _ _ _ _ _ us hl => match us, hl with | [_, _], _ => rfl
  have C__law_cells : Cal P w K mg base CX0 1 "_law_cells" ["_law_script", "_law_top"] (spC w K) := ⟨f__law_cells, fd__law_cells, m__law_cells, F__law_cells.kp, b__law_cells, ok_law_cells M F__law_cells⟩
  obtain ⟨f__law_of, fd__law_of, m__law_of, F__law_of⟩ := h__law_of
  have b__law_of : Binds K fd__law_of ["_law_urn", "_law_goods"] [] := F__law_of.binds fun _ _ _ _ _ _ us hl => match us, hl with | [_, _], _ => rfl
  have C__law_of : Cal P w K mg base CX0 2 "_law_of" ["_law_urn", "_law_goods"] (spU w 1 Pre_of Post_of) := ⟨f__law_of, fd__law_of, m__law_of, F__law_of.kp, b__law_of, ok_law_of M (C__law_take.mono (by decide)) F__law_of⟩
  obtain ⟨f__law_same, fd__law_same, m__law_same, F__law_same⟩ := h__law_same
  have b__law_same : Binds K fd__law_same ["_law_got", "_law_goal"] [] := F__law_same.binds fun _ _ _ _ _ _ us hl => match us, hl with | [_, _], _ => rfl
  have C__law_same : Cal P w K mg base CX0 7 "_law_same" ["_law_got", "_law_goal"] (spS w (Sp_law_same 6)) := ⟨f__law_same, fd__law_same, m__law_same, F__law_same.kp, b__law_same, ok_law_same M m__law_same F__law_same.kp b__law_same F__law_same 6⟩
  obtain ⟨f__law_lists, fd__law_lists, m__law_lists, F__law_lists⟩ := h__law_lists
  have b__law_lists : Binds K fd__law_lists ["_law_matter"] [] := F__law_lists.binds fun _ _ _ _ _ _ us hl => match us, hl with | [_], _ => rfl
  have C__law_lists : Cal P w K mg base CX0 4 "_law_lists" ["_law_matter"] (spS w (Sp_law_lists 3)) := ⟨f__law_lists, fd__law_lists, m__law_lists, F__law_lists.kp, b__law_lists, ok_law_lists M m__law_lists F__law_lists.kp b__law_lists F__law_lists 3⟩
  obtain ⟨f__law_lots, fd__law_lots, m__law_lots, F__law_lots⟩ := h__law_lots
  have b__law_lots : Binds K fd__law_lots ["_law_m", "_law_least"] [] := F__law_lots.binds fun _ _ _ _ _ _ us hl => match us, hl with | [_, _], _ => rfl
  have C__law_lots : Cal P w K mg base CX0 1 "_law_lots" ["_law_m", "_law_least"] (spS w Sp_law_lots) := ⟨f__law_lots, fd__law_lots, m__law_lots, F__law_lots.kp, b__law_lots, ok_law_lots M F__law_lots⟩
  obtain ⟨f__law_heard, fd__law_heard, m__law_heard, F__law_heard⟩ := h__law_heard
  have b__law_heard : Binds K fd__law_heard ["_law_door", "_law_m", "_law_told_here"] [] := F__law_heard.binds fun _ _ _ _ _ _ us hl => match us, hl with | [_, _, _], _ => rfl
  have C__law_heard : Cal P w K mg base CX0 8 "_law_heard" ["_law_door", "_law_m", "_law_told_here"] (spS w Sp_law_heard) := ⟨f__law_heard, fd__law_heard, m__law_heard, F__law_heard.kp, b__law_heard, ok_law_heard cn (C_sure_picks.mono (by decide)) (C_bar.mono (by decide)) (C_best_ask.mono (by decide)) F__law_heard⟩
  obtain ⟨f__law_all_rules, fd__law_all_rules, m__law_all_rules, F__law_all_rules⟩ := h__law_all_rules
  have b__law_all_rules : Binds K fd__law_all_rules ["_law_m"] [] := F__law_all_rules.binds fun _ _ _ _ _ _ us hl => match us, hl with | [_], _ => rfl
  have C__law_all_rules : Cal P w K mg base CX0 2 "_law_all_rules" ["_law_m"] (spS w Sp_law_all_rules) := ⟨f__law_all_rules, fd__law_all_rules, m__law_all_rules, F__law_all_rules.kp, b__law_all_rules, ok_law_all_rules M (C__law_lots.mono (by decide)) F__law_all_rules⟩
  obtain ⟨f__law_orders, fd__law_orders, m__law_orders, F__law_orders⟩ := h__law_orders
  have b__law_orders : Binds K fd__law_orders ["_law_m"] [] := F__law_orders.binds fun _ _ _ _ _ _ us hl => match us, hl with | [_], _ => rfl
  have C__law_orders : Cal P w K mg base CX0 1 "_law_orders" ["_law_m"] (spS w Sp_law_orders) := ⟨f__law_orders, fd__law_orders, m__law_orders, F__law_orders.kp, b__law_orders, ok_law_orders M F__law_orders⟩
  obtain ⟨f__law_by_hand_right, fd__law_by_hand_right, m__law_by_hand_right, F__law_by_hand_right⟩ := h__law_by_hand_right
  have b__law_by_hand_right : Binds K fd__law_by_hand_right [] [] := F__law_by_hand_right.binds fun _ _ _ _ _ _ us hl => match us, hl with | [], _ => rfl
  have C__law_by_hand_right : Cal P w K mg base CX0 9 "_law_by_hand_right" [] (spS w Sp_law_by_hand_right) := ⟨f__law_by_hand_right, fd__law_by_hand_right, m__law_by_hand_right, F__law_by_hand_right.kp, b__law_by_hand_right, ok_law_by_hand_right M (C_orders_told.mono (by decide)) (C_goods_many.mono (by decide)) (C_sure_picks.mono (by decide)) (C_bar.mono (by decide)) (C_best_ask.mono (by decide)) (C__law_heard.mono (by decide)) (C_is_bar.mono (by decide)) (C__law_same.mono (by decide)) (C__law_all_rules.mono (by decide)) (C__law_orders.mono (by decide)) F__law_by_hand_right⟩
  obtain ⟨f__law_first, fd__law_first, m__law_first, F__law_first⟩ := h__law_first
  have b__law_first : Binds K fd__law_first ["_law_order", "_law_lot"] [] := F__law_first.binds fun _ _ _ _ _ _ us hl => match us, hl with | [_, _], _ => rfl
  have C__law_first : Cal P w K mg base CX0 1 "_law_first" ["_law_order", "_law_lot"] (spS w Sp_first_in) := ⟨f__law_first, fd__law_first, m__law_first, F__law_first.kp, b__law_first, ok_law_first F__law_first⟩
  obtain ⟨f__law_goes, fd__law_goes, m__law_goes, F__law_goes⟩ := h__law_goes
  have b__law_goes : Binds K fd__law_goes ["_law_rule", "_law_order"] [] := F__law_goes.binds fun _ _ _ _ _ _ us hl => match us, hl with | [_, _], _ => rfl
  have C__law_goes : Cal P w K mg base CX0 2 "_law_goes" ["_law_rule", "_law_order"] (spS w Sp_law_goes) := ⟨f__law_goes, fd__law_goes, m__law_goes, F__law_goes.kp, b__law_goes, ok_law_goes M (C__law_first.mono (by decide)) F__law_goes⟩
  obtain ⟨f__law_bars, fd__law_bars, m__law_bars, F__law_bars⟩ := h__law_bars
  have b__law_bars : Binds K fd__law_bars ["_law_m", "_law_told_here"] [] := F__law_bars.binds fun _ _ _ _ _ _ us hl => match us, hl with | [_, _], _ => rfl
  have C__law_bars : Cal P w K mg base CX0 2 "_law_bars" ["_law_m", "_law_told_here"] (spS w Sp_law_bars) := ⟨f__law_bars, fd__law_bars, m__law_bars, F__law_bars.kp, b__law_bars, ok_law_bars M (C__law_lots.mono (by decide)) F__law_bars⟩
  obtain ⟨f__law_told, fd__law_told, m__law_told, F__law_told⟩ := h__law_told
  have b__law_told : Binds K fd__law_told ["_law_urn", "_law_m"] [] := F__law_told.binds fun _ _ _ _ _ _ us hl => match us, hl with | [_, _], _ => rfl
  have C__law_told : Cal P w K mg base CX0 3 "_law_told" ["_law_urn", "_law_m"] (spU w 24 Pre_told Post_told) := ⟨f__law_told, fd__law_told, m__law_told, F__law_told.kp, b__law_told, ok_law_told M (C__law_take.mono (by decide)) (C__law_of.mono (by decide)) (C__law_orders.mono (by decide)) (C__law_lots.mono (by decide)) (C__law_first.mono (by decide)) F__law_told⟩
  obtain ⟨f__law_small_right, fd__law_small_right, m__law_small_right, F__law_small_right⟩ := h__law_small_right
  have b__law_small_right : Binds K fd__law_small_right ["_law_m", "_law_told_here"] [] := F__law_small_right.binds fun _ _ _ _ _ _ us hl => match us, hl with | [_, _], _ => rfl
  have C__law_small_right : Cal P w K mg base CX0 12 "_law_small_right" ["_law_m", "_law_told_here"] (spS w Sp_law_small_right) := ⟨f__law_small_right, fd__law_small_right, m__law_small_right, F__law_small_right.kp, b__law_small_right, ok_law_small_right M (C__law_all_rules.mono (by decide)) (C__law_orders.mono (by decide)) (C__law_goes.mono (by decide)) (C_fits.mono (by decide)) (C_width.mono (by decide)) (C__law_same.mono (by decide)) (C__law_lots.mono (by decide)) (C__law_heard.mono (by decide)) (C_goods_many.mono (by decide)) F__law_small_right⟩
  obtain ⟨f__law_right, fd__law_right, m__law_right, F__law_right⟩ := h__law_right
  have b__law_right : Binds K fd__law_right ["_law_urn"] [] := F__law_right.binds fun _ _ _ _ _ _ us hl => match us, hl with | [_], _ => rfl
  have C__law_right : Cal P w K mg base CX0 13 "_law_right" ["_law_urn"] (spU w 28 Pre_law_right Post_law_right) := ⟨f__law_right, fd__law_right, m__law_right, F__law_right.kp, b__law_right, ok_law_right M (C__law_take.mono (by decide)) (C__law_of.mono (by decide)) (C__law_told.mono (by decide)) (C__law_orders.mono (by decide)) (C__law_first.mono (by decide)) (C__law_lots.mono (by decide)) (C__law_bars.mono (by decide)) (C_orders_told.mono (by decide)) (C_goods_many.mono (by decide)) (C__law_lists.mono (by decide)) (C__law_heard.mono (by decide)) (C__law_same.mono (by decide)) (C_is_bar.mono (by decide)) (C_sure_picks.mono (by decide)) (C__law_small_right.mono (by decide)) F__law_right⟩
  exact ok_law (C__law_by_hand_right.mono (by decide)) (C__law_cells.mono (by decide)) (C__law_box.mono (by decide)) (C__law_right.mono (by decide)) F_law
end GY
set_option maxHeartbeats 0
namespace GY
open PySem PySem.Spec PyProof.Rows L2

/-! ## the head: what the top leaves, by names (written by mkasm.py) -/
def mkD (x : Str) (st : Stmt) : He.FnD := ⟨(x, none), x, x, defArgs st, defBody st, defScope st⟩
def fnP0 : List He.FnD := [mkD "is_number" s_is_number, mkD "tuple_of" s_tuple_of, mkD "all_areas" s_all_areas, mkD "rows_within" s_rows_within, mkD "leads_in" s_leads_in, mkD "flooded" s_flooded, mkD "turned" s_turned, mkD "closed_in" s_closed_in, mkD "first_lot" s_first_lot, mkD "lots_of" s_lots_of, mkD "lies_in" s_lies_in, mkD "fits" s_fits, mkD "first_in" s_first_in, mkD "orders_told" s_orders_told, mkD "lot_within" s_lot_within]
def glP0 : List He.Fa := [.glo "is_number", .glo "tuple_of", .glo "all_areas", .glo "rows_within", .glo "leads_in", .glo "flooded", .glo "turned", .glo "closed_in", .glo "first_lot", .glo "lots_of", .glo "lies_in", .glo "fits", .glo "first_in", .glo "orders_told", .glo "lot_within"]
def kpP0 : List He.Fa := [.keep "is_number", .keep "tuple_of", .keep "all_areas", .keep "rows_within", .keep "leads_in", .keep "flooded", .keep "turned", .keep "closed_in", .keep "first_lot", .keep "lots_of", .keep "lies_in", .keep "fits", .keep "first_in", .keep "orders_told", .keep "lot_within"]
def fnP1 : List He.FnD := [mkD "ways_of" s_ways_of, mkD "goods_many" s_goods_many, mkD "sure_picks" s_sure_picks, mkD "is_barred" s_is_barred, mkD "bar" s_bar, mkD "is_bar" s_is_bar, mkD "most_left" s_most_left, mkD "best_ask" s_best_ask, mkD "chain_in" s_chain_in, mkD "chain_of" s_chain_of, mkD "width" s_width, mkD "_law_box" s_law_box, mkD "_law_take" s_law_take, mkD "_law_cells" s_law_cells, mkD "_law_of" s_law_of]
def glP1 : List He.Fa := [.glo "ways_of", .glo "goods_many", .glo "sure_picks", .glo "is_barred", .glo "bar", .glo "is_bar", .glo "most_left", .glo "best_ask", .glo "chain_in", .glo "chain_of", .glo "width", .glo "_law_box", .glo "_law_take", .glo "_law_cells", .glo "_law_of"]
def kpP1 : List He.Fa := [.keep "ways_of", .keep "goods_many", .keep "sure_picks", .keep "is_barred", .keep "bar", .keep "is_bar", .keep "most_left", .keep "best_ask", .keep "chain_in", .keep "chain_of", .keep "width", .keep "_law_box", .keep "_law_take", .keep "_law_cells", .keep "_law_of"]
def fnP2 : List He.FnD := [mkD "_law_same" s_law_same, mkD "_law_lists" s_law_lists, mkD "_law_lots" s_law_lots, mkD "_law_heard" s_law_heard, mkD "_law_all_rules" s_law_all_rules, mkD "_law_orders" s_law_orders, mkD "_law_by_hand_right" s_law_by_hand_right, mkD "_law_first" s_law_first, mkD "_law_goes" s_law_goes, mkD "_law_bars" s_law_bars, mkD "_law_told" s_law_told, mkD "_law_small_right" s_law_small_right, mkD "_law_right" s_law_right, mkD "law" s_law]
def glP2 : List He.Fa := [.glo "_law_same", .glo "_law_lists", .glo "_law_lots", .glo "_law_heard", .glo "_law_all_rules", .glo "_law_orders", .glo "_law_by_hand_right", .glo "_law_first", .glo "_law_goes", .glo "_law_bars", .glo "_law_told", .glo "_law_small_right", .glo "_law_right", .glo "law"]
def kpP2 : List He.Fa := [.keep "_law_same", .keep "_law_lists", .keep "_law_lots", .keep "_law_heard", .keep "_law_all_rules", .keep "_law_orders", .keep "_law_by_hand_right", .keep "_law_first", .keep "_law_goes", .keep "_law_bars", .keep "_law_told", .keep "_law_small_right", .keep "_law_right", .keep "law"]
def frP : List He.Fa := [.free "len", .free "range", .free "sorted", .free "set", .free "tuple", .free "list", .free "dict", .free "max", .free "min", .free "all", .free "any", .free "isinstance", .free "int", .free "bool", .free "str", .free "zip", .free "abs", .free "enumerate"]
def exP : List He.Fa := [.glo "CanNot", .exc "CanNot", .exm "CanNot" "CanNot" true]
def fnA : List He.FnD := fnP0 ++ (fnP1 ++ (fnP2))
def faA : List He.Fa := exP ++ (frP ++ (glP0 ++ (glP1 ++ (glP2 ++ (kpP0 ++ (kpP1 ++ (kpP2)))))))
def tyB (K : PySem.W.Frag) : Bool := He.eqO (PySem.W.nsIn K mainGlobals "combinations") (some (some (.type "itertools.combinations"))) && He.eqO (PySem.W.nsIn K mainGlobals "permutations") (some (some (.type "itertools.permutations")))
abbrev AlX : Type := Bool × He.Al
def obsX (K : PySem.W.Frag) : AlX := (tyB K, He.obsE faA fnA K)
def valX : AlX := (true, He.valE fnA)
def SaysX (K : PySem.W.Frag) : Prop := obsX K = valX
def obsXG (n : Nat) (g : Addr → Option Obj) : AlX := obsX (He.frG g (He.asG g n))
def hkX : PySem.W.Hook where
  α := AlX
  obs := fun s => obsXG 4 s.heap.get?
  val := fun _ => valX
  says := fun _ h => ∃ K : PySem.W.Frag, K.In h ∧ SaysX K
  of := fun _ _ e => ⟨_, He.frG_in, e⟩
  keeps := fun _ _ _ ⟨K, hK, c⟩ k => ⟨K, PySem.W.Frag.In.keeps hK k, c⟩
abbrev R : PySem.W.OpenRow := PySem.W.OpenLaw.row PySem.Challenge.rw_gatheryard_k85_whole_orders_that_fit_or
def obX (s : PySem.W.SharedT) : AlX := obsXG 4 (HandSHeadRun.getT s)
theorem obX_eq (s : PySem.W.SharedT) : obX s = hkX.obs s.abs := by
  have e : HandSHeadRun.getT s = s.abs.heap.get? := funext (HandSHeadRun.getT_eq s)
  show obsXG 4 (HandSHeadRun.getT s) = obsXG 4 s.abs.heap.get?
  rw [e]
def loP0 : List Str := ["CanNot", "is_number", "tuple_of", "all_areas", "rows_within", "leads_in", "flooded", "turned", "closed_in", "first_lot", "lots_of", "lies_in", "fits", "first_in", "orders_told", "lot_within", "ways_of", "goods_many", "sure_picks", "is_barred"]
def loP1 : List Str := ["bar", "is_bar", "most_left", "best_ask", "chain_in", "chain_of", "width", "_law_box", "_law_take", "_law_cells", "_law_of", "_law_same", "_law_lists", "_law_lots", "_law_heard", "_law_by_hand_right", "_law_orders", "_law_first", "_law_all_rules", "_law_goes"]
def loP2 : List Str := ["_law_bars", "_law_told", "_law_small_right", "_law_right"]
def loA : List Str := loP0 ++ (loP1 ++ (loP2))
theorem run (w : World) : HandSHeadRun.RunEqI R (PySem.W.view R.prog [0, 52]) hkX obX 20000 loA w := by
  unfold HandSHeadRun.RunEqI
  kernel_rfl
end GY
namespace GY
open PySem PySem.Spec PyProof.Rows L2

theorem exm_cls {K : PySem.W.Frag} {C : Addr} (hb : PySem.W.subIn K (.ref C) (.type "BaseException") = some true) (h : PySem.W.exmOne K (.ref C) (.ref C) = some true) : PySem.W.isClsIn K C = true ∧ PySem.W.subIn K (.ref C) (.ref C) = some true := by
  unfold PySem.W.exmOne PySem.W.kitCls at h
  rw [hb] at h
  have h : (if ((PySem.W.clsIn K C).isSome && PySem.W.typeIn K (.ref C) == some (.type "type")) = true then PySem.W.subIn K (.ref C) (.ref C) else none) = some true := h
  split at h
  · rename_i hc
    rw [Bool.and_eq_true] at hc
    exact ⟨hc.1, h⟩
  · cases h
theorem gd_of {K : PySem.W.Frag} {h : Heap} {mg : Str → Option Value} (X : K.In h) (G : h.Ns mainGlobals mg) (c : He.SaysE faA fnA K) (i j l : Nat) {x : Str} {st : Stmt} (h1 : fnA[i]? = some (mkD x st)) (h2 : faA[j]? = some (.glo x)) (h3 : faA[l]? = some (.keep x)) : Gd K mg x st := by
  obtain ⟨oc, od, osl, kV, doc, pm, an, cdv, ct, l1, c1⟩ := c.def_ i h1
  exact ⟨_, _, He.glo_ok X G (c.fact j h2), fun_mk l1 c1 (He.keep_ok (c.fact l h3))⟩
theorem facts {P : Program} {w : World} {K : PySem.W.Frag} {h : Heap} {mg : Str → Option Value} {f : Addr} (X : K.In h) (G : h.Ns mainGlobals mg) (hfa : mg ("law" : Str) = some (.ref f)) (cX : SaysX K) :
    ∃ fd : FuncData, (∀ (s : Shared) (v : Value), BindsTo s fd ⟨[v], []⟩ [("_law_script", v)]) ∧ ∀ base : Heap, K.In base → base.Ns mainGlobals mg → FnOk P w K mg base CX0 14 f fd ["_law_script"] (spL w K) := by
  have c : He.SaysE faA fnA K := congrArg (fun z : AlX => z.2) cX
  have cT : tyB K = true := congrArg (fun z : AlX => z.1) cX
  obtain ⟨cT1, cT2⟩ := He.ba cT
  have M : Mg mg := {
    len_ := He.free_ok X G (c.fact 3 (f := .free "len") rfl)
    range_ := He.free_ok X G (c.fact 4 (f := .free "range") rfl)
    sorted_ := He.free_ok X G (c.fact 5 (f := .free "sorted") rfl)
    set_ := He.free_ok X G (c.fact 6 (f := .free "set") rfl)
    tuple_ := He.free_ok X G (c.fact 7 (f := .free "tuple") rfl)
    list_ := He.free_ok X G (c.fact 8 (f := .free "list") rfl)
    dict_ := He.free_ok X G (c.fact 9 (f := .free "dict") rfl)
    max_ := He.free_ok X G (c.fact 10 (f := .free "max") rfl)
    min_ := He.free_ok X G (c.fact 11 (f := .free "min") rfl)
    all_ := He.free_ok X G (c.fact 12 (f := .free "all") rfl)
    any_ := He.free_ok X G (c.fact 13 (f := .free "any") rfl)
    isinstance_ := He.free_ok X G (c.fact 14 (f := .free "isinstance") rfl)
    int_ := He.free_ok X G (c.fact 15 (f := .free "int") rfl)
    bool_ := He.free_ok X G (c.fact 16 (f := .free "bool") rfl)
    str_ := He.free_ok X G (c.fact 17 (f := .free "str") rfl)
    zip_ := He.free_ok X G (c.fact 18 (f := .free "zip") rfl)
    abs_ := He.free_ok X G (c.fact 19 (f := .free "abs") rfl)
    enumerate_ := He.free_ok X G (c.fact 20 (f := .free "enumerate") rfl)
    comb := PySem.W.mg_of X G (He.eqO_ok cT1)
    perm := PySem.W.mg_of X G (He.eqO_ok cT2) }
  obtain ⟨x1, x2, x3, x4⟩ := He.exc_ok (c.fact 1 (f := .exc "CanNot") rfl)
  obtain ⟨y1, y2⟩ := exm_cls x3 (He.exm_ok (c.fact 2 (f := .exm "CanNot" "CanNot" true) rfl))
  have cn : CN K mg (He.ga K "CanNot") := ⟨x1, He.glo_ok X G (c.fact 0 (f := .glo "CanNot") rfl), x2, x3, x4, y1, y2⟩
  have h_is_number : Gd K mg "is_number" s_is_number := gd_of X G c 0 21 65 rfl rfl rfl
  have h_tuple_of : Gd K mg "tuple_of" s_tuple_of := gd_of X G c 1 22 66 rfl rfl rfl
  have h_all_areas : Gd K mg "all_areas" s_all_areas := gd_of X G c 2 23 67 rfl rfl rfl
  have h_rows_within : Gd K mg "rows_within" s_rows_within := gd_of X G c 3 24 68 rfl rfl rfl
  have h_leads_in : Gd K mg "leads_in" s_leads_in := gd_of X G c 4 25 69 rfl rfl rfl
  have h_flooded : Gd K mg "flooded" s_flooded := gd_of X G c 5 26 70 rfl rfl rfl
  have h_turned : Gd K mg "turned" s_turned := gd_of X G c 6 27 71 rfl rfl rfl
  have h_closed_in : Gd K mg "closed_in" s_closed_in := gd_of X G c 7 28 72 rfl rfl rfl
  have h_first_lot : Gd K mg "first_lot" s_first_lot := gd_of X G c 8 29 73 rfl rfl rfl
  have h_lots_of : Gd K mg "lots_of" s_lots_of := gd_of X G c 9 30 74 rfl rfl rfl
  have h_lies_in : Gd K mg "lies_in" s_lies_in := gd_of X G c 10 31 75 rfl rfl rfl
  have h_fits : Gd K mg "fits" s_fits := gd_of X G c 11 32 76 rfl rfl rfl
  have h_first_in : Gd K mg "first_in" s_first_in := gd_of X G c 12 33 77 rfl rfl rfl
  have h_orders_told : Gd K mg "orders_told" s_orders_told := gd_of X G c 13 34 78 rfl rfl rfl
  have h_lot_within : Gd K mg "lot_within" s_lot_within := gd_of X G c 14 35 79 rfl rfl rfl
  have h_ways_of : Gd K mg "ways_of" s_ways_of := gd_of X G c 15 36 80 rfl rfl rfl
  have h_goods_many : Gd K mg "goods_many" s_goods_many := gd_of X G c 16 37 81 rfl rfl rfl
  have h_sure_picks : Gd K mg "sure_picks" s_sure_picks := gd_of X G c 17 38 82 rfl rfl rfl
  have h_is_barred : Gd K mg "is_barred" s_is_barred := gd_of X G c 18 39 83 rfl rfl rfl
  have h_bar : Gd K mg "bar" s_bar := gd_of X G c 19 40 84 rfl rfl rfl
  have h_is_bar : Gd K mg "is_bar" s_is_bar := gd_of X G c 20 41 85 rfl rfl rfl
  have h_most_left : Gd K mg "most_left" s_most_left := gd_of X G c 21 42 86 rfl rfl rfl
  have h_best_ask : Gd K mg "best_ask" s_best_ask := gd_of X G c 22 43 87 rfl rfl rfl
  have h_chain_in : Gd K mg "chain_in" s_chain_in := gd_of X G c 23 44 88 rfl rfl rfl
  have h_chain_of : Gd K mg "chain_of" s_chain_of := gd_of X G c 24 45 89 rfl rfl rfl
  have h_width : Gd K mg "width" s_width := gd_of X G c 25 46 90 rfl rfl rfl
  have h__law_box : Gd K mg "_law_box" s_law_box := gd_of X G c 26 47 91 rfl rfl rfl
  have h__law_take : Gd K mg "_law_take" s_law_take := gd_of X G c 27 48 92 rfl rfl rfl
  have h__law_cells : Gd K mg "_law_cells" s_law_cells := gd_of X G c 28 49 93 rfl rfl rfl
  have h__law_of : Gd K mg "_law_of" s_law_of := gd_of X G c 29 50 94 rfl rfl rfl
  have h__law_same : Gd K mg "_law_same" s_law_same := gd_of X G c 30 51 95 rfl rfl rfl
  have h__law_lists : Gd K mg "_law_lists" s_law_lists := gd_of X G c 31 52 96 rfl rfl rfl
  have h__law_lots : Gd K mg "_law_lots" s_law_lots := gd_of X G c 32 53 97 rfl rfl rfl
  have h__law_heard : Gd K mg "_law_heard" s_law_heard := gd_of X G c 33 54 98 rfl rfl rfl
  have h__law_all_rules : Gd K mg "_law_all_rules" s_law_all_rules := gd_of X G c 34 55 99 rfl rfl rfl
  have h__law_orders : Gd K mg "_law_orders" s_law_orders := gd_of X G c 35 56 100 rfl rfl rfl
  have h__law_by_hand_right : Gd K mg "_law_by_hand_right" s_law_by_hand_right := gd_of X G c 36 57 101 rfl rfl rfl
  have h__law_first : Gd K mg "_law_first" s_law_first := gd_of X G c 37 58 102 rfl rfl rfl
  have h__law_goes : Gd K mg "_law_goes" s_law_goes := gd_of X G c 38 59 103 rfl rfl rfl
  have h__law_bars : Gd K mg "_law_bars" s_law_bars := gd_of X G c 39 60 104 rfl rfl rfl
  have h__law_told : Gd K mg "_law_told" s_law_told := gd_of X G c 40 61 105 rfl rfl rfl
  have h__law_small_right : Gd K mg "_law_small_right" s_law_small_right := gd_of X G c 41 62 106 rfl rfl rfl
  have h__law_right : Gd K mg "_law_right" s_law_right := gd_of X G c 42 63 107 rfl rfl rfl
  have h_law : Gd K mg "law" s_law := gd_of X G c 43 64 108 rfl rfl rfl
  obtain ⟨f', fd, m', F'⟩ := h_law
  have ef := hfa.symm.trans m'
  cases ef
  refine ⟨fd, fun s v => ?_, fun base _ _ => all_ok M cn h_is_number h_tuple_of h_all_areas h_rows_within h_leads_in h_flooded h_turned h_closed_in h_first_lot h_lots_of h_lies_in h_fits h_first_in h_orders_told h_lot_within h_ways_of h_goods_many h_sure_picks h_is_barred h_bar h_is_bar h_most_left h_best_ask h_chain_in h_chain_of h_width h__law_box h__law_take h__law_cells h__law_of h__law_same h__law_lists h__law_lots h__law_heard h__law_all_rules h__law_orders h__law_by_hand_right h__law_first h__law_goes h__law_bars h__law_told h__law_small_right h__law_right F'⟩
  obtain ⟨oc, od, kV, doc, pm, an, cdv, ct, osl, rfl, lk, hcd⟩ := F'.ex
  exact .of_eq rfl
end GY
open PySem PySem.W PySem.Calls PyProof.Rows
set_option maxRecDepth 100000 in
set_option maxHeartbeats 8000000 in
theorem PySem.Challenge.cw_gatheryard_k85_whole_orders_that_fit_or_holds : PySem.Challenge.rw_gatheryard_k85_whole_orders_that_fit_or.Holds := by
  w_on; o_law
  refine HandSHeadRun.head_imp (r := OpenLaw.row PySem.Challenge.rw_gatheryard_k85_whole_orders_that_fit_or) (q := view (OpenLaw.row PySem.Challenge.rw_gatheryard_k85_whole_orders_that_fit_or).prog [0, 52]) (H := GY.hkX) (ob := GY.obX) (M := 20000) (loose := GY.loA) (d := HandSHeadRun.topDef (OpenLaw.row PySem.Challenge.rw_gatheryard_k85_whole_orders_that_fit_or).prog 52) (kwd := []) GY.obX_eq
    GY.run (by kernel_rfl) (by kernel_rfl) (by kernel_rfl) (by rfl) (by first | assumption | decide +kernel) (by decide +kernel) ⟨rfl, rfl, rfl, rfl, rfl, by decide +kernel⟩ ?hw ?hc
  case hw => w_witness2
  case hc =>
    refine L2.walk_ofE (l := PySem.Challenge.rw_gatheryard_k85_whole_orders_that_fit_or) (n := 63) (k := 14) (x := "_law_script") (CX := L2.CX0) rfl (by decide) (by kernel_rfl) ⟨rfl, by decide, by decide⟩ ?F (fun _ _ _ _ z => z)
    intro w mg fa h Y G hmg0
    obtain ⟨K, KX, c⟩ := Y
    have hmg : mg ("law" : PySem.Str) = some (.ref fa) := by
      have e : (HandSHeadRun.topDef (OpenLaw.row PySem.Challenge.rw_gatheryard_k85_whole_orders_that_fit_or).prog 52).name = ("law" : PySem.Str) := by kernel_rfl
      rw [← e]
      exact hmg0
    obtain ⟨fd, hb, hF⟩ := GY.facts (P := (PySem.Challenge.rw_gatheryard_k85_whole_orders_that_fit_or).prog) (w := w) KX G hmg c
    exact ⟨K, fd, GY.spL w K, KX, hb, fun H a ns hl _ hS => ⟨a, ns, rfl, hl, hS, fun _ => rfl⟩, hF⟩
