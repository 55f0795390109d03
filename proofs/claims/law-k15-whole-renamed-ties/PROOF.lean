import PyProof.Rows.All
import Wide.All
import OpenK.AllK
import Wide.FinOn
import KE.KStateDown
import KE.SortData
import KE.DatumOrd
import HandS.ForMost
import HandS.WordsExc
import HandS.Defaults
import HandS.Deep
import HandS.IsInst
import HandS.Conv
import HandS.Zip
import HandS.More
import HandS.Star
import HandS.TupSets
import HandS.Walk
import HandS.Head0
import HandS.Head1
import HandS.Head2
import HandS.HeadHook1
import HandS.HeadHook2
import HandS.ExcField
import HandS.ExcIs
import HandS.ExcOwn
import HandS.SlotsOwn
import PySem.Challenge.RW_joinedguests_k15_whole_renamed_ties
import KE.DataMinMax
import OpenK.KOps
import KE.GoesMore
import KE.GoesEnum
import KE.KDictCopyH
import KE.KExcSuper
import KE.KSuper
import HandS.ExcSuper
import HandS.ExcInit
import KE.KDictZip
import HandS.MapObj
import HandS.ListItems
import KE.GoesZip
import HandS.ClsMeth
import HandS.HeadEnd
import HandS.Ends
set_option Elab.async false
set_option linter.all false
set_option maxRecDepth 100000
set_option maxHeartbeats 1000000
namespace Z
open PySem PySem.Spec PyProof.Rows L2
/-! ### data: as the kit's, but every tuple is one that is tracked as itself -/
mutual
inductive Dq (K : PySem.W.Frag) (H : Hp) : V → PyData → Prop
  | non : Dq K H .non .none
  | bl (b : Bool) : Dq K H (.bl b) (.bool b)
  | int (i : Int) : Dq K H (.int i) (.int i)
  | str (x : Str) : Dq K H (.str x) (.str x)
  | lst {a : Addr} {xs : List V} {ds : List PyData} : H a = some (.lst xs) → DqAll K H xs ds → Dq K H (.ref a) (.list ds)
  | tup {a : Addr} {xs : List V} {ds : List PyData} : H a = some (.tup xs) → DqAll K H xs ds → Dq K H (.ref a) (.tuple ds)
inductive DqAll (K : PySem.W.Frag) (H : Hp) : List V → List PyData → Prop
  | nil : DqAll K H [] []
  | cons {v : V} {vs : List V} {d : PyData} {ds : List PyData} : Dq K H v d → DqAll K H vs ds → DqAll K H (v :: vs) (d :: ds)
end
mutual
theorem Dq.dp {K : PySem.W.Frag} {H : Hp} : ∀ (d : PyData) (v : V), Dq K H v d → L2.Dp K H v d
  | .none, _, h => by cases h; exact .non
  | .bool b, _, h => by cases h; exact .bl b
  | .int i, _, h => by cases h; exact .int i
  | .str x, _, h => by cases h; exact .str x
  | .list ds, _, h => by
    cases h with
    | lst hs ha => exact .lst (SqL.of hs) (DqAll.dp ds _ ha)
  | .tuple ds, _, h => by
    cases h with
    | tup hs ha => exact .tup (SqT.of hs) (DqAll.dp ds _ ha)
  | .dict _, _, h => by cases h
theorem DqAll.dp {K : PySem.W.Frag} {H : Hp} : ∀ (ds : List PyData) (vs : List V), DqAll K H vs ds → L2.DpAll K H vs ds
  | [], _, h => by cases h; exact .nil
  | d :: ds, _, h => by
    cases h with
    | cons h1 h2 => exact .cons (Dq.dp d _ h1) (DqAll.dp ds _ h2)
end
/-! ### heaps: what grows, what is hidden -/
abbrev Ex (H H' : Hp) : Prop := ∀ a o, H a = some o → H' a = some o
theorem Ex.refl (H : Hp) : Ex H H := fun _ _ h => h
theorem Ex.trans {H H1 H2 : Hp} (a : Ex H H1) (b : Ex H1 H2) : Ex H H2 := fun x o h => b x o (a x o h)
def hid (W : List Addr) (H : Hp) : Hp := fun b => if b ∈ W then none else H b
theorem hid_at {W : List Addr} {H : Hp} {b : Addr} {o : HO} (h : hid W H b = some o) : b ∉ W ∧ H b = some o := by
  unfold hid at h
  by_cases q : b ∈ W
  · rw [if_pos q] at h
    cases h
  · rw [if_neg q] at h
    exact ⟨q, h⟩
theorem hid_of {W : List Addr} {H : Hp} {b : Addr} (q : b ∉ W) : hid W H b = H b := if_neg q
theorem hid_in {W : List Addr} {H : Hp} {b : Addr} (q : b ∈ W) : hid W H b = none := if_pos q
theorem hid_ex {W : List Addr} {H : Hp} : Ex (hid W H) H := fun b o h => (hid_at h).2
theorem hid_sub {W W' : List Addr} {H H' : Hp} (s : ∀ a, a ∈ W' → a ∈ W) (k : ∀ b o, b ∉ W → H b = some o → H' b = some o) : Ex (hid W H) (hid W' H') := fun b o h => by
  obtain ⟨h1, h2⟩ := hid_at h
  rw [hid_of fun z => h1 (s b z)]
  exact k b o h1 h2
theorem hid_congr {W W' : List Addr} {H : Hp} (s : ∀ a, a ∈ W ↔ a ∈ W') : hid W H = hid W' H := by
  funext b
  by_cases q : b ∈ W
  · rw [hid_in q, hid_in ((s b).mp q)]
  · rw [hid_of q, hid_of fun z => q ((s b).mpr z)]
/-- what is hidden may be anything -/
theorem hid_upd {W : List Addr} {H : Hp} {a : Addr} {o : HO} (q : a ∈ W) : hid W (upd H a o) = hid W H := by
  funext b
  by_cases z : b ∈ W
  · rw [hid_in z, hid_in z]
  · rw [hid_of z, hid_of z, upd_ne fun e => z (by rw [e]; exact q)]
section
variable {K : PySem.W.Frag} {H H' : Hp}
theorem rd_ex {a : Addr} {u : HO} (e : Ex H H') (h : Rd H a u) : Rd H' a u := by
  rcases h with h | ⟨o, h⟩
  · exact .inl (e _ _ h)
  · exact .inr ⟨o, e _ _ h⟩
theorem sqL_ex {a : Addr} {xs : List V} (e : Ex H H') (h : SqL K H a xs) : SqL K H' a xs := by
  rcases h with h | h
  · exact .inl (rd_ex e h)
  · exact .inr h
theorem sqT_ex {a : Addr} {xs : List V} (e : Ex H H') (h : SqT K H a xs) : SqT K H' a xs := by
  rcases h with h | h
  · exact .inl (rd_ex e h)
  · exact .inr h
mutual
theorem Dq.ex (e : Ex H H') : ∀ (d : PyData) (v : V), Dq K H v d → Dq K H' v d
  | .none, _, h => by cases h; exact .non
  | .bool b, _, h => by cases h; exact .bl b
  | .int i, _, h => by cases h; exact .int i
  | .str x, _, h => by cases h; exact .str x
  | .list ds, _, h => by
    cases h with
    | lst hs ha => exact .lst (e _ _ hs) (DqAll.ex e ds _ ha)
  | .tuple ds, _, h => by
    cases h with
    | tup hs ha => exact .tup (e _ _ hs) (DqAll.ex e ds _ ha)
  | .dict _, _, h => by cases h
theorem DqAll.ex (e : Ex H H') : ∀ (ds : List PyData) (vs : List V), DqAll K H vs ds → DqAll K H' vs ds
  | [], _, h => by cases h; exact .nil
  | d :: ds, _, h => by
    cases h with
    | cons h1 h2 => exact .cons (Dq.ex e d _ h1) (DqAll.ex e ds _ h2)
end
theorem DqAll.len : ∀ {ds : List PyData} {vs : List V}, DqAll K H vs ds → vs.length = ds.length
  | [], _, h => by cases h; rfl
  | d :: ds, _, h => by
    cases h with
    | cons h1 h2 => exact congrArg (· + 1) (DqAll.len h2)
theorem DqAll.get : ∀ {ds : List PyData} {vs : List V} {i : Nat} {d : PyData}, DqAll K H vs ds → ds[i]? = some d → ∃ v, vs[i]? = some v ∧ Dq K H v d
  | [], _, _, _, _, e => by simp at e
  | d :: ds, _, 0, d', h, e => by
    cases h with
    | cons h1 h2 =>
      have e' : d = d' := Option.some.inj e
      subst e'
      exact ⟨_, rfl, h1⟩
  | d :: ds, _, i + 1, d', h, e => by
    cases h with
    | cons h1 h2 => exact DqAll.get (i := i) h2 e
theorem DqAll.getV : ∀ {ds : List PyData} {vs : List V} {i : Nat} {v : V}, DqAll K H vs ds → vs[i]? = some v → ∃ d, ds[i]? = some d ∧ Dq K H v d
  | [], _, _, _, h, e => by cases h; simp at e
  | d :: ds, _, 0, v, h, e => by
    cases h with
    | cons h1 h2 =>
      have e' := Option.some.inj e
      subst e'
      exact ⟨_, rfl, h1⟩
  | d :: ds, _, i + 1, v, h, e => by
    cases h with
    | cons h1 h2 => exact DqAll.getV (i := i) h2 e
theorem DqAll.app : ∀ {ds es : List PyData} {vs ws : List V}, DqAll K H vs ds → DqAll K H ws es → DqAll K H (vs ++ ws) (ds ++ es)
  | [], _, _, _, h, g => by cases h; exact g
  | d :: ds, _, _, _, h, g => by
    cases h with
    | cons h1 h2 => exact .cons h1 (DqAll.app h2 g)
theorem DqAll.one {v : V} {d : PyData} (h : Dq K H v d) : DqAll K H [v] [d] := .cons h .nil
theorem DqAll.set : ∀ {ds : List PyData} {vs : List V} {v : V} {d : PyData} (i : Nat), Dq K H v d → DqAll K H vs ds → DqAll K H (vs.set i v) (ds.set i d)
  | [], _, _, _, _, _, h => by cases h; exact .nil
  | d :: ds, _, _, _, 0, g, h => by
    cases h with
    | cons h1 h2 => exact .cons g h2
  | d :: ds, _, _, _, i + 1, g, h => by
    cases h with
    | cons h1 h2 => exact .cons h1 (DqAll.set i g h2)
theorem DqAll.take : ∀ {ds : List PyData} {vs : List V} (i : Nat), DqAll K H vs ds → DqAll K H (vs.take i) (ds.take i)
  | _, _, 0, h => .nil
  | [], _, _ + 1, h => by cases h; exact .nil
  | d :: ds, _, i + 1, h => by
    cases h with
    | cons h1 h2 => exact .cons h1 (DqAll.take i h2)
theorem DqAll.drop : ∀ {ds : List PyData} {vs : List V} (i : Nat), DqAll K H vs ds → DqAll K H (vs.drop i) (ds.drop i)
  | _, _, 0, h => h
  | [], _, _ + 1, h => by cases h; exact .nil
  | d :: ds, _, i + 1, h => by
    cases h with
    | cons h1 h2 => exact DqAll.drop i h2
theorem DqAll.erase : ∀ {ds : List PyData} {vs : List V} (i : Nat), DqAll K H vs ds → DqAll K H (vs.eraseIdx i) (ds.eraseIdx i)
  | [], _, _, h => by cases h; exact .nil
  | d :: ds, _, 0, h => by
    cases h with
    | cons h1 h2 => exact h2
  | d :: ds, _, i + 1, h => by
    cases h with
    | cons h1 h2 => exact .cons h1 (DqAll.erase i h2)
end

/-! ### kinds of values, of cells -/
structure Sm where
  P : Hp → V → Prop
  up : ∀ {H H' : Hp} {v : V}, Ex H H' → P H v → P H' v
inductive Tv where
  | any
  | d (x : PyData)
  | cel (k : Nat)
  | bas (k : Nat)
  | sem (s : Sm)
/-- there, and no tuple -/
def Lv (o : Option HO) : Prop := o ≠ none ∧ ∀ xs, o ≠ some (.tup xs)
theorem Lv.ex {H H' : Hp} {m : Addr} (e : Ex H H') (h : Lv (H m)) : Lv (H' m) := by
  cases q : H m with
  | none => exact absurd q h.1
  | some o =>
    rw [e m o q]
    rw [q] at h
    exact h
theorem lv_lst {vs : List V} : Lv (some (.lst vs)) := ⟨(fun z => nomatch z), (fun _ z => nomatch z)⟩
theorem lv_ins {C dx : Addr} {fs : List (Str × V)} : Lv (some (.ins C dx fs)) := ⟨(fun z => nomatch z), (fun _ z => nomatch z)⟩
theorem lv_dT {kvs : List (List Key × V)} : Lv (some (.dT kvs)) := ⟨(fun z => nomatch z), (fun _ z => nomatch z)⟩
theorem lv_dK {kvs : List (Key × V)} : Lv (some (.dK kvs)) := ⟨(fun z => nomatch z), (fun _ z => nomatch z)⟩
structure Cell where
  P : Hp → HO → Prop
  up : ∀ {H H' : Hp} {o : HO}, Ex H H' → P H o → P H' o
  nt : ∀ {H : Hp} {o : HO}, P H o → Lv (some o)
def lstC (K : PySem.W.Frag) (ds : List PyData) : Cell := ⟨fun H o => ∃ vs, o = .lst vs ∧ DqAll K H vs ds, fun e ⟨vs, h, g⟩ => ⟨vs, h, DqAll.ex e _ _ g⟩, fun ⟨vs, h, _⟩ => by rw [h]; exact lv_lst⟩
def holds (K : PySem.W.Frag) (bs ls : List Addr) (H : Hp) (v : V) : Tv → Prop
  | .any => True
  | .d x => Dq K H v x
  | .cel k => ∃ a, ls[k]? = some a ∧ v = .ref a
  | .bas k => ∃ a, bs[k]? = some a ∧ v = .ref a
  | .sem s => s.P H v
theorem holds.ex {K : PySem.W.Frag} {bs ls : List Addr} {H H' : Hp} {v : V} (e : Ex H H') : ∀ {t : Tv}, holds K bs ls H v t → holds K bs ls H' v t
  | .any, h => h
  | .d x, h => Dq.ex e _ _ h
  | .cel k, h => h
  | .bas k, h => h
  | .sem s, h => s.up e h
/-- cells at addresses -/
def CellsOk (G H : Hp) : List Addr → List Cell → Prop
  | [], [] => True
  | a :: as, c :: cs => (∃ o, H a = some o ∧ c.P G o) ∧ CellsOk G H as cs
  | _, _ => False
theorem CellsOk.len {G H : Hp} : ∀ {as : List Addr} {cs : List Cell}, CellsOk G H as cs → as.length = cs.length
  | [], [], _ => rfl
  | _ :: _, _ :: _, h => congrArg (· + 1) (CellsOk.len h.2)
  | [], _ :: _, h => h.elim
  | _ :: _, [], h => h.elim
theorem CellsOk.ex {G G' H H' : Hp} (e : Ex G G') : ∀ {as : List Addr} {cs : List Cell}, (∀ a o, a ∈ as → H a = some o → H' a = some o) → CellsOk G H as cs → CellsOk G' H' as cs
  | [], [], _, h => h
  | a :: as, c :: cs, k, ⟨⟨o, h1, h2⟩, h3⟩ => ⟨⟨o, k a o List.mem_cons_self h1, c.up e h2⟩, CellsOk.ex e (fun b o hb => k b o (List.mem_cons_of_mem _ hb)) h3⟩
  | [], _ :: _, _, h => h.elim
  | _ :: _, [], _, h => h.elim
theorem CellsOk.at {G H : Hp} : ∀ {as : List Addr} {cs : List Cell} {k : Nat} {a : Addr} {c : Cell}, CellsOk G H as cs → as[k]? = some a → cs[k]? = some c → ∃ o, H a = some o ∧ c.P G o
  | [], [], _, _, _, _, e, _ => by simp at e
  | a :: as, c :: cs, 0, a', c', h, e, f => by
    have e' := Option.some.inj e
    have f' := Option.some.inj f
    subst e' f'
    exact h.1
  | a :: as, c :: cs, k + 1, a', c', h, e, f => CellsOk.at (k := k) h.2 e f
  | [], _ :: _, _, _, _, h, _, _ => h.elim
  | _ :: _, [], _, _, _, h, _, _ => h.elim
theorem CellsOk.addr {G H : Hp} {as : List Addr} {cs : List Cell} {k : Nat} {c : Cell} (h : CellsOk G H as cs) (f : cs[k]? = some c) : ∃ a, as[k]? = some a := by
  have e := h.len
  have hk := (List.getElem?_eq_some_iff.mp f).1
  exact ⟨as[k], List.getElem?_eq_getElem (by omega)⟩
/-- one cell changed -/
theorem CellsOk.set {G H H' : Hp} {c' : Cell} {o' : HO} : ∀ {as : List Addr} {cs : List Cell} {k : Nat} {a : Addr}, as.Nodup → CellsOk G H as cs → as[k]? = some a → (∀ b o, b ≠ a → H b = some o → H' b = some o) → H' a = some o' → c'.P G o' → CellsOk G H' as (cs.set k c')
  | [], [], _, _, _, _, e, _, _, _ => by simp at e
  | a :: as, c :: cs, 0, a', nd, h, e, k, n, p => by
    have e' := Option.some.inj e
    subst e'
    exact ⟨⟨o', n, p⟩, CellsOk.ex (Ex.refl _) (fun b o hb => k b o fun z => (List.nodup_cons.mp nd).1 (by rw [← z]; exact hb)) h.2⟩
  | a :: as, c :: cs, i + 1, a', nd, h, e, k, n, p => by
    have ha : a' ∈ as := List.mem_of_getElem? (show as[i]? = some a' from e)
    refine ⟨?_, CellsOk.set (k := i) (List.nodup_cons.mp nd).2 h.2 e k n p⟩
    obtain ⟨o, h1, h2⟩ := h.1
    exact ⟨o, k a o (fun z => (List.nodup_cons.mp nd).1 (by rw [z]; exact ha)) h1, h2⟩
  | [], _ :: _, _, _, _, h, _, _, _, _ => h.elim
  | _ :: _, [], _, _, _, h, _, _, _, _ => h.elim
theorem CellsOk.snoc {G H : Hp} {a : Addr} {c : Cell} {o : HO} (h1 : H a = some o) (h2 : c.P G o) : ∀ {as : List Addr} {cs : List Cell}, CellsOk G H as cs → CellsOk G H (as ++ [a]) (cs ++ [c])
  | [], [], _ => ⟨⟨o, h1, h2⟩, trivial⟩
  | _ :: _, _ :: _, h => ⟨h.1, CellsOk.snoc h1 h2 h.2⟩
  | [], _ :: _, h => h.elim
  | _ :: _, [], h => h.elim
theorem CellsOk.init {G H : Hp} {c : Cell} : ∀ {as : List Addr} {cs : List Cell}, CellsOk G H as (cs ++ [c]) → ∃ as' a o, as = as' ++ [a] ∧ CellsOk G H as' cs ∧ H a = some o ∧ c.P G o
  | [], [], h => h.elim
  | [a], [], h => ⟨[], a, h.1.choose, rfl, trivial, h.1.choose_spec⟩
  | _ :: _ :: _, [], h => h.2.elim
  | [], _ :: _, h => h.elim
  | a :: as, d :: cs, h => by
    obtain ⟨as', b, o, e, h1, h2⟩ := CellsOk.init (as := as) (cs := cs) h.2
    exact ⟨a :: as', b, o, by rw [e]; rfl, ⟨h.1, h1⟩, h2⟩

/-! ### slots -/
def SlotOk (K : PySem.W.Frag) (bs ls : List Addr) (H : Hp) (ov : Option V) : Tv → Prop
  | .any => True
  | t => ∃ v, ov = some v ∧ holds K bs ls H v t
theorem slot_of {K : PySem.W.Frag} {bs ls : List Addr} {H : Hp} {v : V} {t : Tv} (h : holds K bs ls H v t) : SlotOk K bs ls H (some v) t := by
  cases t <;> first | trivial | exact ⟨v, rfl, h⟩
theorem SlotOk.ex {K : PySem.W.Frag} {bs ls : List Addr} {H H' : Hp} {ov : Option V} (e : Ex H H') {t : Tv} (h : SlotOk K bs ls H ov t) : SlotOk K bs ls H' ov t := by
  cases t with
  | any => trivial
  | _ => obtain ⟨v, h1, h2⟩ := h; exact ⟨v, h1, h2.ex e⟩
def Env (K : PySem.W.Frag) (bs ls : List Addr) (H : Hp) : List (Option V) → List Tv → Prop
  | [], [] => True
  | o :: σ, t :: Γ => SlotOk K bs ls H o t ∧ Env K bs ls H σ Γ
  | _, _ => False
section
variable {K : PySem.W.Frag} {bs ls : List Addr} {H H' : Hp}
theorem Env.ex (e : Ex H H') : ∀ {σ : List (Option V)} {Γ : List Tv}, Env K bs ls H σ Γ → Env K bs ls H' σ Γ
  | [], [], h => h
  | _ :: _, _ :: _, h => ⟨h.1.ex e, Env.ex e h.2⟩
  | [], _ :: _, h => h.elim
  | _ :: _, [], h => h.elim
theorem Env.at : ∀ {σ : List (Option V)} {Γ : List Tv} {i : Nat} {t : Tv}, Env K bs ls H σ Γ → Γ[i]? = some t → ∃ o, σ[i]? = some o ∧ SlotOk K bs ls H o t
  | [], [], _, _, _, e => by simp at e
  | o :: σ, t :: Γ, 0, t', h, e => by
    have e' := Option.some.inj e
    subst e'
    exact ⟨o, rfl, h.1⟩
  | o :: σ, t :: Γ, i + 1, t', h, e => Env.at (i := i) h.2 e
  | [], _ :: _, _, _, h, _ => h.elim
  | _ :: _, [], _, _, h, _ => h.elim
theorem Env.set {v : V} {t : Tv} (g : holds K bs ls H v t) : ∀ {σ : List (Option V)} {Γ : List Tv} (i : Nat), Env K bs ls H σ Γ → Env K bs ls H (σ.set i (some v)) (Γ.set i t)
  | [], [], _, h => h
  | o :: σ, _ :: Γ, 0, h => ⟨slot_of g, h.2⟩
  | o :: σ, _ :: Γ, i + 1, h => ⟨h.1, Env.set g i h.2⟩
  | [], _ :: _, _, h => h.elim
  | _ :: _, [], _, h => h.elim
theorem Env.wipe1 : ∀ {σ : List (Option V)} {Γ : List Tv} (i : Nat), Env K bs ls H σ Γ → Env K bs ls H (σ.set i none) (Γ.set i .any)
  | [], [], _, h => h
  | o :: σ, _ :: Γ, 0, h => ⟨trivial, h.2⟩
  | o :: σ, _ :: Γ, i + 1, h => ⟨h.1, Env.wipe1 i h.2⟩
  | [], _ :: _, _, h => h.elim
  | _ :: _, [], _, h => h.elim
/-- forgetting -/
def Wk : List Tv → List Tv → Prop
  | [], [] => True
  | t :: Γ, u :: Γ' => (u = .any ∨ u = t) ∧ Wk Γ Γ'
  | _, _ => False
theorem Wk.refl : ∀ Γ : List Tv, Wk Γ Γ
  | [] => trivial
  | _ :: Γ => ⟨.inr rfl, Wk.refl Γ⟩
theorem Env.wk : ∀ {σ : List (Option V)} {Γ Γ' : List Tv}, Wk Γ Γ' → Env K bs ls H σ Γ → Env K bs ls H σ Γ'
  | [], [], [], _, h => h
  | o :: σ, t :: Γ, u :: Γ', w, h => ⟨by
      rcases w.1 with e | e
      · rw [e]; trivial
      · rw [e]; exact h.1, Env.wk w.2 h.2⟩
  | _, [], _ :: _, w, _ => w.elim
  | _, _ :: _, [], w, _ => w.elim
  | [], _ :: _, _, _, h => h.elim
  | _ :: _, [], _, _, h => h.elim
end
/-- the cell k is no more: its slots hold t -/
def subC (k : Nat) (t : Tv) : List Tv → List Tv
  | [] => []
  | .cel j :: Γ => (if j = k then t else .cel j) :: subC k t Γ
  | u :: Γ => u :: subC k t Γ

/-! ### the state -/
structure St (K : PySem.W.Frag) (bc cs : List Cell) (Γ : List Tv) (M bs ls : List Addr) (σ : L2.St) (H : Hp) : Prop where
  nd : (ls ++ bs).Nodup
  dis : ∀ a, a ∈ ls ++ bs → a ∉ M
  old : ∀ m, m ∈ M → Lv (H m)
  base : CellsOk (hid (ls ++ (bs ++ M)) H) H bs bc
  cell : CellsOk (hid (ls ++ (bs ++ M)) H) H ls cs
  env : Env K bs ls (hid (ls ++ (bs ++ M)) H) σ Γ
/-- all but the cells is kept -/
structure Kp (bs ls : List Addr) (H H' : Hp) : Prop where
  k : ∀ b o, b ∉ ls → b ∉ bs → H b = some o → H' b = some o
  d : ∀ b, H b ≠ none → H' b ≠ none
theorem Kp.refl {bs ls : List Addr} (H : Hp) : Kp bs ls H H := ⟨fun _ _ _ _ h => h, fun _ h => h⟩
theorem Kp.trans {bs ls : List Addr} {H H1 H2 : Hp} (a : Kp bs ls H H1) (b : Kp bs ls H1 H2) : Kp bs ls H H2 := ⟨fun x o h g e => b.k x o h g (a.k x o h g e), fun x h => b.d x (a.d x h)⟩
theorem some_none {H : Hp} {a : Addr} {o : HO} (h : H a = some o) : H a ≠ none := fun z => by
  rw [h] at z
  cases z
theorem Kp.of_ex {bs ls : List Addr} {H H' : Hp} (e : Ex H H') : Kp bs ls H H' := ⟨fun x o _ _ h => e x o h, fun b h => by
  cases q : H b with
  | none => exact absurd q h
  | some o => exact some_none (e b o q)⟩
theorem Kp.ex {bs ls M : List Addr} {H H' : Hp} (k : Kp bs ls H H') : Ex (hid (ls ++ (bs ++ M)) H) (hid (ls ++ (bs ++ M)) H') :=
  hid_sub (fun _ h => h) fun b o h e => k.k b o (fun z => h (List.mem_append_left _ z)) (fun z => h (List.mem_append_right _ (List.mem_append_left _ z))) e
theorem Kp.free {bs ls : List Addr} {H H' : Hp} {p : Addr} (k : Kp bs ls H H') (n : H' p = none) : H p = none := by
  cases z : H p with
  | none => rfl
  | some o => exact absurd n (k.d p (some_none z))
section
variable {K : PySem.W.Frag} {bc cs : List Cell} {Γ Γ' : List Tv} {M bs ls : List Addr} {σ σ' : L2.St} {H H' : Hp}
/-- everything kept -/
theorem St.ex (h : St K bc cs Γ M bs ls σ H) (e : Ex H H') : St K bc cs Γ M bs ls σ H' := by
  have g : Ex (hid (ls ++ (bs ++ M)) H) (hid (ls ++ (bs ++ M)) H') := hid_sub (fun _ h => h) fun b o _ q => e b o q
  exact ⟨h.nd, h.dis, fun m hm => (h.old m hm).ex e, h.base.ex g fun a o _ q => e a o q, h.cell.ex g fun a o _ q => e a o q, h.env.ex g⟩
theorem St.with (h : St K bc cs Γ M bs ls σ H) (e : Env K bs ls (hid (ls ++ (bs ++ M)) H) σ' Γ') : St K bc cs Γ' M bs ls σ' H := ⟨h.nd, h.dis, h.old, h.base, h.cell, e⟩
theorem St.set (h : St K bc cs Γ M bs ls σ H) {v : V} {t : Tv} (g : holds K bs ls (hid (ls ++ (bs ++ M)) H) v t) (i : Nat) : St K bc cs (Γ.set i t) M bs ls (σ.set i (some v)) H := h.with (h.env.set g i)
theorem St.new (h : St K bc cs Γ M bs ls σ H) {p : Addr} (n : H p = none) : p ∉ ls ∧ p ∉ bs ∧ p ∉ M := by
  have key : ∀ {as : List Addr} {ds : List Cell} {G : Hp}, CellsOk G H as ds → p ∉ as := by
    intro as
    induction as with
    | nil => intro ds G _ z; cases z
    | cons a as ih =>
      intro ds G c z
      cases ds with
      | nil => exact c.elim
      | cons d ds =>
        rcases List.mem_cons.mp z with e | e
        · obtain ⟨o, q, _⟩ := c.1
          rw [← e, n] at q
          cases q
        · exact ih c.2 e
  exact ⟨key h.cell, key h.base, fun z => (h.old p z).1 n⟩
theorem ex_upd {p : Addr} {o : HO} (n : H p = none) : Ex H (upd H p o) := fun b u e => by
  rw [upd_ne (ne_of_none e n)]
  exact e
theorem nin {p : Addr} (h : p ∉ ls ∧ p ∉ bs ∧ p ∉ M) : p ∉ ls ++ (bs ++ M) := fun z => by
  rcases List.mem_append.mp z with z | z
  · exact h.1 z
  · rcases List.mem_append.mp z with z | z
    · exact h.2.1 z
    · exact h.2.2 z
end
end Z
set_option Elab.async false
set_option linter.all false
set_option maxRecDepth 100000
set_option maxHeartbeats 1000000
namespace Z
open PySem PySem.Spec PyProof.Rows L2
/-! ### judgements -/
section
variable (K : PySem.W.Frag) (bc cs : List Cell) (Γ : List Tv)
/-- an expression gives a T -/
def Pn (te : TE) (T : Tv → Prop) : Prop := ∀ M bs ls σ H, St K bc cs Γ M bs ls σ H → ∀ Q : VK,
  (∀ t v H', T t → St K bc cs Γ M bs ls σ H' → Kp bs ls H H' → holds K bs ls (hid (ls ++ (bs ++ M)) H') v t → Q v H') → te σ H Q
/-- a test gives a B -/
def Pt (tt : TT) (B : Bool → Prop) : Prop := ∀ M bs ls σ H, St K bc cs Γ M bs ls σ H → ∀ Q : Bool → Hp → Prop,
  (∀ b H', B b → St K bc cs Γ M bs ls σ H' → Kp bs ls H H' → Q b H') → tt σ H Q
def HoldsAll (bs ls : List Addr) (H : Hp) : List V → List Tv → Prop
  | [], [] => True
  | v :: vs, t :: ts => holds K bs ls H v t ∧ HoldsAll bs ls H vs ts
  | _, _ => False
/-- arguments -/
def Pa (ta : TA) (T : List Tv → Prop) : Prop := ∀ M bs ls σ H, St K bc cs Γ M bs ls σ H → ∀ Q : List V → Hp → Prop,
  (∀ ts vs H', T ts → St K bc cs Γ M bs ls σ H' → Kp bs ls H H' → HoldsAll K bs ls (hid (ls ++ (bs ++ M)) H') vs ts → Q vs H') → ta σ H Q
/-- a new list -/
def Pf (te : TE) (T : List PyData → Prop) : Prop := ∀ M bs ls σ H, St K bc cs Γ M bs ls σ H → ∀ Q : VK,
  (∀ ds vs p H', T ds → H p = none → St K bc cs Γ (p :: M) bs ls σ H' → Kp bs ls H H' → H' p = some (.lst vs) → DqAll K (hid (ls ++ (bs ++ (p :: M))) H') vs ds → Q (.ref p) H') → te σ H Q
/-- an operation on two values -/
def Ro (r : R2) (t u : Tv) (T : Tv → Prop) : Prop := ∀ M bs ls σ H x y, St K bc cs Γ M bs ls σ H → holds K bs ls (hid (ls ++ (bs ++ M)) H) x t → holds K bs ls (hid (ls ++ (bs ++ M)) H) y u → ∀ Q : VK,
  (∀ s v H', T s → St K bc cs Γ M bs ls σ H' → Kp bs ls H H' → holds K bs ls (hid (ls ++ (bs ++ M)) H') v s → Q v H') → r x y H Q
/-- a call on values -/
def Rc (r : List V → Hp → VK → Prop) (ts : List Tv) (T : Tv → Prop) : Prop := ∀ M bs ls σ H vs, St K bc cs Γ M bs ls σ H → HoldsAll K bs ls (hid (ls ++ (bs ++ M)) H) vs ts → ∀ Q : VK,
  (∀ s v H', T s → St K bc cs Γ M bs ls σ H' → Kp bs ls H H' → holds K bs ls (hid (ls ++ (bs ++ M)) H') v s → Q v H') → r vs H Q
/-- what is returned: a value; a new list -/
inductive Rv where
  | tv (t : Tv)
  | fr (ds : List PyData)
def holdsR (bs M : List Addr) (H H' : Hp) (v : V) : Rv → Prop
  | .tv t => holds K bs [] (hid (bs ++ M) H') v t
  | .fr ds => ∃ p vs, v = .ref p ∧ H p = none ∧ H' p = some (.lst vs) ∧ DqAll K (hid (p :: (bs ++ M)) H') vs ds
/-- what is raised: an error of the class at C, its own dict's fields -/
def own (v : V) : Rv → List Addr
  | .tv _ => []
  | .fr _ => match v with
    | .ref p => [p]
    | _ => []
structure Xv where
  C : Addr
  fs : List (Str × V)
def Fresh (ls ls' : List Addr) (H : Hp) : Prop := ∀ a, a ∈ ls' → a ∈ ls ∨ H a = none
/-- statements: N what holds behind them, R what they return, X what they raise -/
def Tr (E : XK) (ts : TS) (N : List Cell → List Cell → List Tv → Prop) (R : List Cell → Rv → Prop) (X : Xv → Prop) : Prop := ∀ M bs ls σ H, St K bc cs Γ M bs ls σ H → ∀ D : Ends,
  (∀ bc' cs' Γ' ls' σ' H', N bc' cs' Γ' → St K bc' cs' Γ' M bs ls' σ' H' → Kp bs ls H H' → Fresh ls ls' H → D.nx σ' H') →
  (∀ bc' r v H', R bc' r → (∀ m, m ∈ M → Lv (H' m)) → CellsOk (hid (own v r ++ (bs ++ M)) H') H' bs bc' → Kp bs ls H H' → holdsR K bs M H H' v r → D.rt v H') →
  (∀ x d H', X x → Kp bs ls H H' → H d = none → H' d = some (.xd x.fs) → E (.ref x.C) (some d) H') → ts D σ H
end
section
variable {K : PySem.W.Frag} {bc cs : List Cell} {Γ : List Tv}
theorem HoldsAll.ex {bs ls : List Addr} {H H' : Hp} (e : Ex H H') : ∀ {vs : List V} {ts : List Tv}, HoldsAll K bs ls H vs ts → HoldsAll K bs ls H' vs ts
  | [], [], h => h
  | _ :: _, _ :: _, h => ⟨h.1.ex e, HoldsAll.ex e h.2⟩
  | [], _ :: _, h => h.elim
  | _ :: _, [], h => h.elim
theorem HoldsAll.len {bs ls : List Addr} {H : Hp} : ∀ {vs : List V} {ts : List Tv}, HoldsAll K bs ls H vs ts → vs.length = ts.length
  | [], [], _ => rfl
  | _ :: _, _ :: _, h => congrArg (· + 1) (HoldsAll.len h.2)
  | [], _ :: _, h => h.elim
  | _ :: _, [], h => h.elim
theorem HoldsAll.data {bs ls : List Addr} {H : Hp} : ∀ {vs : List V} {ds : List PyData}, HoldsAll K bs ls H vs (ds.map .d) → DqAll K H vs ds
  | [], [], _ => .nil
  | _ :: _, _ :: _, h => .cons h.1 (HoldsAll.data h.2)
  | [], _ :: _, h => h.elim
  | _ :: _, [], h => h.elim
theorem Pn.mono {te : TE} {T T' : Tv → Prop} (h : Pn K bc cs Γ te T) (k : ∀ t, T t → T' t) : Pn K bc cs Γ te T' := fun M bs ls σ H S Q q => h M bs ls σ H S Q fun t v H' ht => q t v H' (k t ht)
theorem Pt.mono {te : TT} {T T' : Bool → Prop} (h : Pt K bc cs Γ te T) (k : ∀ t, T t → T' t) : Pt K bc cs Γ te T' := fun M bs ls σ H S Q q => h M bs ls σ H S Q fun t H' ht => q t H' (k t ht)
theorem Pf.mono {te : TE} {T T' : List PyData → Prop} (h : Pf K bc cs Γ te T) (k : ∀ t, T t → T' t) : Pf K bc cs Γ te T' := fun M bs ls σ H S Q q => h M bs ls σ H S Q fun t v p H' ht => q t v p H' (k t ht)
theorem Pa.mono {te : TA} {T T' : List Tv → Prop} (h : Pa K bc cs Γ te T) (k : ∀ t, T t → T' t) : Pa K bc cs Γ te T' := fun M bs ls σ H S Q q => h M bs ls σ H S Q fun t v H' ht => q t v H' (k t ht)
theorem Ro.mono {r : R2} {t u : Tv} {T T' : Tv → Prop} (h : Ro K bc cs Γ r t u T) (k : ∀ t, T t → T' t) : Ro K bc cs Γ r t u T' := fun M bs ls σ H x y S hx hy Q q => h M bs ls σ H x y S hx hy Q fun t v H' ht => q t v H' (k t ht)
/-- a new list is a list -/
theorem hid_more {W W' : List Addr} {H : Hp} (s : ∀ a, a ∈ W' → a ∈ W) : Ex (hid W H) (hid W' H) := hid_sub s fun _ _ _ e => e
theorem mem3 {ls bs M : List Addr} {p a : Addr} (h : a ∈ ls ++ (bs ++ M)) : a ∈ ls ++ (bs ++ (p :: M)) := by
  simp only [List.mem_append, List.mem_cons] at h ⊢
  rcases h with h | h | h
  · exact .inl h
  · exact .inr (.inl h)
  · exact .inr (.inr (.inr h))
theorem mem4 {ls bs M : List Addr} {p a : Addr} (n : a ≠ p) (h : a ∈ ls ++ (bs ++ (p :: M))) : a ∈ ls ++ (bs ++ M) := by
  simp only [List.mem_append, List.mem_cons] at h ⊢
  rcases h with h | h | h | h
  · exact .inl h
  · exact .inr (.inl h)
  · exact absurd h n
  · exact .inr (.inr h)
/-- the hidden one shows again -/
theorem St.show {M bs ls : List Addr} {σ : L2.St} {H : Hp} {p : Addr} (S : St K bc cs Γ (p :: M) bs ls σ H) : St K bc cs Γ M bs ls σ H := by
  have g : Ex (hid (ls ++ (bs ++ (p :: M))) H) (hid (ls ++ (bs ++ M)) H) := hid_more fun a h => mem3 h
  exact ⟨S.nd, fun a h z => S.dis a h (List.mem_cons_of_mem _ z), fun m h => S.old m (List.mem_cons_of_mem _ h), S.base.ex g fun _ _ _ e => e, S.cell.ex g fun _ _ _ e => e, S.env.ex g⟩
theorem hid_new {ls bs M : List Addr} {H : Hp} {p : Addr} {o : HO} (n : H p = none) : hid (ls ++ (bs ++ (p :: M))) (upd H p o) = hid (ls ++ (bs ++ M)) H := by
  funext b
  by_cases e : b = p
  · rw [e, hid_in (show p ∈ ls ++ (bs ++ (p :: M)) by simp)]
    by_cases z : p ∈ ls ++ (bs ++ M)
    · rw [hid_in z]
    · rw [hid_of z, n]
  · by_cases z : b ∈ ls ++ (bs ++ M)
    · rw [hid_in z, hid_in (mem3 z)]
    · rw [hid_of z, hid_of fun q => z (mem4 e q), upd_ne e]
/-- a new object, hidden -/
theorem St.hide {M bs ls : List Addr} {σ : L2.St} {H : Hp} {p : Addr} {o : HO} (S : St K bc cs Γ M bs ls σ H) (n : H p = none) (lv : Lv (some o) := by exact lv_lst) : St K bc cs Γ (p :: M) bs ls σ (upd H p o) := by
  have np := S.new n
  have e := ex_upd (o := o) n
  refine ⟨S.nd, fun a h z => ?_, fun m h => ?_, ?_, ?_, ?_⟩
  · rcases List.mem_cons.mp z with q | q
    · rw [q] at h
      rcases List.mem_append.mp h with q | q
      · exact np.1 q
      · exact np.2.1 q
    · exact S.dis a h q
  · rcases List.mem_cons.mp h with q | q
    · rw [q, upd_same]
      exact lv
    · exact (S.old m q).ex e
  · rw [hid_new n]
    exact S.base.ex (Ex.refl _) fun a o _ q => e a o q
  · rw [hid_new n]
    exact S.cell.ex (Ex.refl _) fun a o _ q => e a o q
  · rw [hid_new n]
    exact S.env
theorem Pf.pn {te : TE} {T : List PyData → Prop} (h : Pf K bc cs Γ te T) : Pn K bc cs Γ te (fun t => ∃ ds, T ds ∧ t = .d (.list ds)) := fun M bs ls σ H S Q q =>
  h M bs ls σ H S Q fun ds vs p H' ht n S' k hp ha => q _ _ H' ⟨ds, ht, rfl⟩ S'.show k (.lst (by rw [hid_of (nin (S.new n))]; exact hp) (DqAll.ex (hid_more fun a h => mem3 h) _ _ ha))
theorem Pf.pd {te : TE} {ds : List PyData} (h : Pf K bc cs Γ te (· = ds)) : Pn K bc cs Γ te (· = .d (.list ds)) := h.pn.mono fun t ⟨d, e, f⟩ => by rw [f, e]

/-! ### expressions -/
theorem pn_var {i : Nat} {t : Tv} (h : Γ[i]? = some t) (ht : t ≠ .any) : Pn K bc cs Γ (tVar i) (· = t) := fun M bs ls σ H S Q q => by
  obtain ⟨o, e, so⟩ := S.env.at h
  cases t with
  | any => exact absurd rfl ht
  | _ => obtain ⟨v, rfl, hv⟩ := so; exact ⟨v, e, q _ v H rfl S (Kp.refl H) hv⟩
theorem pd {i : Nat} {x : PyData} (h : Γ[i]? = some (.d x)) : Pn K bc cs Γ (tVar i) (· = .d x) := pn_var h fun e => by cases e
theorem pc {i : Nat} {k : Nat} (h : Γ[i]? = some (.cel k)) : Pn K bc cs Γ (tVar i) (· = .cel k) := pn_var h fun e => by cases e
theorem pb {i : Nat} {k : Nat} (h : Γ[i]? = some (.bas k)) : Pn K bc cs Γ (tVar i) (· = .bas k) := pn_var h fun e => by cases e
theorem ps {i : Nat} {s : Sm} (h : Γ[i]? = some (.sem s)) : Pn K bc cs Γ (tVar i) (· = .sem s) := pn_var h fun e => by cases e
theorem pn_c {v : V} {t : Tv} (h : ∀ bs ls H, holds K bs ls H v t) : Pn K bc cs Γ (tC v) (· = t) := fun M bs ls σ H S Q q => q _ v H rfl S (Kp.refl H) (h _ _ _)
theorem pc_int {i : Int} : Pn K bc cs Γ (tC (.int i)) (· = .d (.int i)) := pn_c fun _ _ _ => .int i
theorem pc_bl {i : Bool} : Pn K bc cs Γ (tC (.bl i)) (· = .d (.bool i)) := pn_c fun _ _ _ => .bl i
theorem pc_non : Pn K bc cs Γ (tC .non) (· = .d .none) := pn_c fun _ _ _ => .non
theorem pc_str {x : Str} : Pn K bc cs Γ (tC (.str x)) (· = .d (.str x)) := pn_c fun _ _ _ => .str x
/-- a class, a written thing, as a value -/
def isV (v : V) : Sm := ⟨fun _ u => u = v, fun _ h => h⟩
theorem pc_v {v : V} : Pn K bc cs Γ (tC v) (· = .sem (isV v)) := pn_c fun _ _ _ => rfl
theorem pn_op {r : R2} {ta tb : TE} {T1 : Tv → Prop} {T2 T : Tv → Prop} (ha : Pn K bc cs Γ ta T1) (hb : Pn K bc cs Γ tb T2) (hr : ∀ t u, T1 t → T2 u → Ro K bc cs Γ r t u T) : Pn K bc cs Γ (tOp r ta tb) T := fun M bs ls σ H S Q q =>
  ha M bs ls σ H S _ fun t x H1 ht S1 k1 hx => hb M bs ls σ H1 S1 _ fun u y H2 hu S2 k2 hy => hr t u ht hu M bs ls σ H2 x y S2 (hx.ex k2.ex) hy Q fun s v H3 hs S3 k3 hv => q s v H3 hs S3 ((k1.trans k2).trans k3) hv
theorem pd_op {r : R2} {ta tb : TE} {t u : Tv} {T : Tv → Prop} (ha : Pn K bc cs Γ ta (· = t)) (hb : Pn K bc cs Γ tb (· = u)) (hr : Ro K bc cs Γ r t u T) : Pn K bc cs Γ (tOp r ta tb) T :=
  pn_op ha hb fun t' u' e f => by rw [e, f]; exact hr
theorem pn_un {r : V → Hp → VK → Prop} {ta : TE} {i j : Int} (hr : ∀ H Q, Q (.int j) H → r (.int i) H Q) (ha : Pn K bc cs Γ ta (· = .d (.int i))) : Pn K bc cs Γ (tUn r ta) (· = .d (.int j)) := fun M bs ls σ H S Q q =>
  ha M bs ls σ H S _ fun t x H1 ht S1 k1 hx => by
    subst ht
    cases hx
    exact hr H1 Q (q _ _ H1 rfl S1 k1 (.int j))
theorem ro_val {r : R2} {t u s : Tv} (h : ∀ M bs ls σ H x y, St K bc cs Γ M bs ls σ H → holds K bs ls (hid (ls ++ (bs ++ M)) H) x t → holds K bs ls (hid (ls ++ (bs ++ M)) H) y u → ∀ Q : VK,
    (∀ v, holds K bs ls (hid (ls ++ (bs ++ M)) H) v s → Q v H) → r x y H Q) : Ro K bc cs Γ r t u (· = s) := fun M bs ls σ H x y S hx hy Q q => h M bs ls σ H x y S hx hy Q fun v hv => q s v H rfl S (Kp.refl H) hv
theorem ro_int {g : Int → Int → Int} {i j : Int} : Ro K bc cs Γ (rI0 fun i j => .int (g i j)) (.d (.int i)) (.d (.int j)) (· = .d (.int (g i j))) := ro_val fun M bs ls σ H x y S hx hy Q q => by
  cases hx
  cases hy
  exact ⟨i, j, rfl, rfl, q _ (.int _)⟩
theorem ro_bl {g : Int → Int → Bool} {i j : Int} : Ro K bc cs Γ (rI0 fun i j => .bl (g i j)) (.d (.int i)) (.d (.int j)) (· = .d (.bool (g i j))) := ro_val fun M bs ls σ H x y S hx hy Q q => by
  cases hx
  cases hy
  exact ⟨i, j, rfl, rfl, q _ (.bl _)⟩
theorem ro_intC {C : Int → Int → Prop} {g : Int → Int → Int} {i j : Int} (hc : C i j) : Ro K bc cs Γ (rI C fun i j => .int (g i j)) (.d (.int i)) (.d (.int j)) (· = .d (.int (g i j))) := ro_val fun M bs ls σ H x y S hx hy Q q => by
  cases hx
  cases hy
  exact ⟨i, j, rfl, rfl, hc, q _ (.int _)⟩
/-- an item of a list or a tuple -/
def rIxLT (K : PySem.W.Frag) : R2 := fun x y H Q => rIxL K x y H Q ∨ rIxT K x y H Q
theorem ix_LT {X : Cx} : IxR X (rIxLT X.K) := IxR.or ix_list ix_tup
theorem atI_dp {H : Hp} {vs : List V} {ds : List PyData} {i : Int} {x : PyData} (h : DqAll K H vs ds) (e : atI ds i = some x) : ∃ v, atI vs i = some v ∧ Dq K H v x := by
  have hl := DqAll.len h
  unfold atI at e ⊢
  rw [hl]
  cases q : ixN ds.length i with
  | none => rw [q] at e; cases e
  | some j =>
    rw [q] at e
    exact DqAll.get (i := j) h e
theorem ro_ixL {ds : List PyData} {i : Int} {x : PyData} (e : atI ds i = some x) : Ro K bc cs Γ (rIxLT K) (.d (.list ds)) (.d (.int i)) (· = .d x) := ro_val fun M bs ls σ H a b S hx hy Q q => by
  cases hy
  cases hx with
  | lst hs ha =>
    obtain ⟨v, hv, hd⟩ := atI_dp ha e
    exact .inl ⟨_, _, i, v, rfl, rfl, SqL.of (hid_ex _ _ hs), hv, q v hd⟩
theorem ro_ixT {ds : List PyData} {i : Int} {x : PyData} (e : atI ds i = some x) : Ro K bc cs Γ (rIxLT K) (.d (.tuple ds)) (.d (.int i)) (· = .d x) := ro_val fun M bs ls σ H a b S hx hy Q q => by
  cases hy
  cases hx with
  | tup hs ha =>
    obtain ⟨v, hv, hd⟩ := atI_dp ha e
    exact .inr ⟨_, _, i, v, rfl, rfl, SqT.of (hid_ex _ _ hs), hv, q v hd⟩
/-- an item of a cell that holds a list -/
theorem St.cellAt {M bs ls : List Addr} {σ : L2.St} {H : Hp} {k : Nat} {a : Addr} {ds : List PyData} (S : St K bc cs Γ M bs ls σ H) (e : ls[k]? = some a) (f : cs[k]? = some (lstC K ds)) : ∃ vs, H a = some (.lst vs) ∧ DqAll K (hid (ls ++ (bs ++ M)) H) vs ds := by
  obtain ⟨o, h1, vs, rfl, h2⟩ := S.cell.at e f
  exact ⟨vs, h1, h2⟩
theorem ro_ixC {ds : List PyData} {k : Nat} {i : Int} {x : PyData} (f : cs[k]? = some (lstC K ds)) (e : atI ds i = some x) : Ro K bc cs Γ (rIxLT K) (.cel k) (.d (.int i)) (· = .d x) := ro_val fun M bs ls σ H a b S hx hy Q q => by
  cases hy
  obtain ⟨c, hc, rfl⟩ := hx
  obtain ⟨vs, h1, h2⟩ := S.cellAt hc f
  obtain ⟨v, hv, hd⟩ := atI_dp h2 e
  exact .inl ⟨c, vs, i, v, rfl, rfl, SqL.of h1, hv, q v hd⟩
/-! ### == of data, in, is None -/
theorem ro_eq {x y : PyData} (sx : SeqAt.shaped x = true) (sy : SeqAt.shaped y = true) : Ro K bc cs Γ (rEqD K) (.d x) (.d y) (· = .d (.bool (PyData.eqv x y))) := ro_val fun M bs ls σ H a b S hx hy Q q =>
  ⟨x, y, Dq.dp _ _ (Dq.ex hid_ex _ _ hx), Dq.dp _ _ (Dq.ex hid_ex _ _ hy), sx, sy, q _ (.bl _)⟩
theorem ro_ne {x y : PyData} (sx : SeqAt.shaped x = true) (sy : SeqAt.shaped y = true) : Ro K bc cs Γ (rNeD K) (.d x) (.d y) (· = .d (.bool (!PyData.eqv x y))) := ro_val fun M bs ls σ H a b S hx hy Q q =>
  ⟨x, y, Dq.dp _ _ (Dq.ex hid_ex _ _ hx), Dq.dp _ _ (Dq.ex hid_ex _ _ hy), sx, sy, q _ (.bl _)⟩
abbrev rIs : R2 := fun x y H Q => y = .non ∧ Q (.bl (decide (x = .non))) H
abbrev rIsNot : R2 := fun x y H Q => y = .non ∧ Q (.bl (!decide (x = .non))) H
def isNoneD : PyData → Bool
  | .none => true
  | _ => false
theorem dp_non {H : Hp} {v : V} : ∀ {x : PyData}, Dq K H v x → decide (v = .non) = isNoneD x
  | .none, h => by cases h; rfl
  | .bool _, h => by cases h; rfl
  | .int _, h => by cases h; rfl
  | .str _, h => by cases h; rfl
  | .list _, h => by cases h; rfl
  | .tuple _, h => by cases h; rfl
  | .dict _, h => by cases h
theorem ro_is {x : PyData} : Ro K bc cs Γ rIs (.d x) (.d .none) (· = .d (.bool (isNoneD x))) := ro_val fun M bs ls σ H a b S hx hy Q q => by
  cases hy
  exact ⟨rfl, by rw [dp_non hx]; exact q _ (.bl _)⟩
theorem ro_isNot {x : PyData} : Ro K bc cs Γ rIsNot (.d x) (.d .none) (· = .d (.bool (!isNoneD x))) := ro_val fun M bs ls σ H a b S hx hy Q q => by
  cases hy
  exact ⟨rfl, by rw [dp_non hx]; exact q _ (.bl _)⟩
/-! ### truth -/
theorem qt_of {te : TE} {b : Bool} (h : Pn K bc cs Γ te (· = .d (.bool b))) : Pt K bc cs Γ (tTest te) (· = b) := fun M bs ls σ H S Q q => h M bs ls σ H S _ fun t v H1 ht S1 k1 hv => by
  subst ht
  cases hv
  exact ⟨b, rfl, q b H1 rfl S1 k1⟩
theorem qt_B {te : TE} {b : Bool} (h : Pn K bc cs Γ te (· = .d (.bool b))) : Pt K bc cs Γ (tB te) (· = b) := qt_of h
theorem qt_any {te : TE} {B : Bool → Prop} (h : Pn K bc cs Γ te (fun t => ∃ b, B b ∧ t = .d (.bool b))) : Pt K bc cs Γ (tTest te) B := fun M bs ls σ H S Q q => h M bs ls σ H S _ fun t v H1 ht S1 k1 hv => by
  obtain ⟨b, hb, rfl⟩ := ht
  cases hv
  exact ⟨b, rfl, q b H1 hb S1 k1⟩
theorem qt_not {tt : TT} {b : Bool} (h : Pt K bc cs Γ tt (· = b)) : Pt K bc cs Γ (tNot tt) (· = !b) := fun M bs ls σ H S Q q => h M bs ls σ H S _ fun t H1 ht S1 k1 => q _ H1 (by rw [ht]) S1 k1
theorem qt_and {tt uu : TT} {a b : Bool} (h : Pt K bc cs Γ tt (· = a)) (g : a = true → Pt K bc cs Γ uu (· = b)) : Pt K bc cs Γ (tAnd tt uu) (· = (a && b)) := fun M bs ls σ H S Q q => h M bs ls σ H S _ fun t H1 ht S1 k1 => by
  subst ht
  cases t with
  | true => exact g rfl M bs ls σ H1 S1 Q fun u H2 hu S2 k2 => q u H2 (by rw [hu]; rfl) S2 (k1.trans k2)
  | false => exact q false H1 rfl S1 k1
theorem qt_or {tt uu : TT} {a b : Bool} (h : Pt K bc cs Γ tt (· = a)) (g : a = false → Pt K bc cs Γ uu (· = b)) : Pt K bc cs Γ (tOr tt uu) (· = (a || b)) := fun M bs ls σ H S Q q => h M bs ls σ H S _ fun t H1 ht S1 k1 => by
  subst ht
  cases t with
  | true => exact q true H1 rfl S1 k1
  | false => exact g rfl M bs ls σ H1 S1 Q fun u H2 hu S2 k2 => q u H2 (by rw [hu]; rfl) S2 (k1.trans k2)
theorem qt_yes : Pt K bc cs Γ tYes (· = true) := fun M bs ls σ H S Q q => q true H rfl S (Kp.refl H)
theorem pn_andV {ta tb : TE} {a b : Bool} (h : Pn K bc cs Γ ta (· = .d (.bool a))) (g : a = true → Pn K bc cs Γ tb (· = .d (.bool b))) : Pn K bc cs Γ (tAndV ta tb) (· = .d (.bool (a && b))) := fun M bs ls σ H S Q q => h M bs ls σ H S _ fun t v H1 ht S1 k1 hv => by
  subst ht
  cases hv
  refine ⟨a, rfl, ?_⟩
  cases a with
  | true => exact g rfl M bs ls σ H1 S1 Q fun u w H2 hu S2 k2 hw => q u w H2 hu S2 (k1.trans k2) hw
  | false => exact q _ _ H1 rfl S1 k1 (.bl _)
theorem pn_orV {ta tb : TE} {a b : Bool} (h : Pn K bc cs Γ ta (· = .d (.bool a))) (g : a = false → Pn K bc cs Γ tb (· = .d (.bool b))) : Pn K bc cs Γ (tOrV ta tb) (· = .d (.bool (a || b))) := fun M bs ls σ H S Q q => h M bs ls σ H S _ fun t v H1 ht S1 k1 hv => by
  subst ht
  cases hv
  refine ⟨a, rfl, ?_⟩
  cases a with
  | true => exact q _ _ H1 rfl S1 k1 (.bl _)
  | false => exact g rfl M bs ls σ H1 S1 Q fun u w H2 hu S2 k2 hw => q u w H2 hu S2 (k1.trans k2) hw
theorem pn_notV {ta : TE} {a : Bool} (h : Pn K bc cs Γ ta (· = .d (.bool a))) : Pn K bc cs Γ (tNotV ta) (· = .d (.bool (!a))) := fun M bs ls σ H S Q q => h M bs ls σ H S _ fun t v H1 ht S1 k1 hv => by
  subst ht
  cases hv
  exact ⟨a, rfl, q _ _ H1 rfl S1 k1 (.bl _)⟩
theorem pn_if {tt : TT} {ta tb : TE} {b : Bool} {T : Tv → Prop} (h : Pt K bc cs Γ tt (· = b)) (h1 : b = true → Pn K bc cs Γ ta T) (h2 : b = false → Pn K bc cs Γ tb T) : Pn K bc cs Γ (tIf tt ta tb) T := fun M bs ls σ H S Q q => h M bs ls σ H S _ fun t H1 ht S1 k1 => by
  subst ht
  cases t with
  | true => exact h1 rfl M bs ls σ H1 S1 Q fun u w H2 hu S2 k2 hw => q u w H2 hu S2 (k1.trans k2) hw
  | false => exact h2 rfl M bs ls σ H1 S1 Q fun u w H2 hu S2 k2 hw => q u w H2 hu S2 (k1.trans k2) hw
/-- a op b op' c -/
theorem pn_chain {r r' : R2} {ta tb tc : TE} {t u w : Tv} {a b : Bool} (ha : Pn K bc cs Γ ta (· = t)) (hb : Pn K bc cs Γ tb (· = u)) (hr : Ro K bc cs Γ r t u (· = .d (.bool a))) (hc : a = true → Pn K bc cs Γ tc (· = w)) (hr' : a = true → Ro K bc cs Γ r' u w (· = .d (.bool b))) :
    Pn K bc cs Γ (tChain r r' ta tb tc) (· = .d (.bool (a && b))) := fun M bs ls σ H S Q q =>
  ha M bs ls σ H S _ fun t1 x H1 e1 S1 k1 hx => hb M bs ls σ H1 S1 _ fun u1 y H2 e2 S2 k2 hy => by
    subst e1 e2
    refine hr M bs ls σ H2 x y S2 (hx.ex k2.ex) hy _ fun s v H3 hs S3 k3 hv => ?_
    subst hs
    cases hv
    refine ⟨a, rfl, ?_⟩
    cases a with
    | false => exact q _ _ H3 rfl S3 ((k1.trans k2).trans k3) (.bl _)
    | true =>
      refine hc rfl M bs ls σ H3 S3 _ fun w1 z H4 e4 S4 k4 hz => ?_
      subst e4
      exact hr' rfl M bs ls σ H4 y z S4 ((hy.ex k3.ex).ex k4.ex) hz Q fun s v H5 hs S5 k5 hv => q s v H5 hs S5 ((((k1.trans k2).trans k3).trans k4).trans k5) hv
/-! ### displays, arguments -/
theorem qa_nil : Pa K bc cs Γ tNil (· = []) := fun M bs ls σ H S Q q => q _ _ H rfl S (Kp.refl H) trivial
theorem qa_consG {ta : TE} {tr : TA} {T : Tv → Prop} {Ts : List Tv → Prop} (h : Pn K bc cs Γ ta T) (g : Pa K bc cs Γ tr Ts) : Pa K bc cs Γ (tCons ta tr) (fun l => ∃ t ts, T t ∧ Ts ts ∧ l = t :: ts) := fun M bs ls σ H S Q q =>
  h M bs ls σ H S _ fun t v H1 ht S1 k1 hv => g M bs ls σ H1 S1 _ fun ts vs H2 hts S2 k2 hvs => q (t :: ts) (v :: vs) H2 ⟨t, ts, ht, hts, rfl⟩ S2 (k1.trans k2) ⟨hv.ex k2.ex, hvs⟩
theorem qa_cons {ta : TE} {tr : TA} {t : Tv} {ts : List Tv} (h : Pn K bc cs Γ ta (· = t)) (g : Pa K bc cs Γ tr (· = ts)) : Pa K bc cs Γ (tCons ta tr) (· = t :: ts) := (qa_consG h g).mono fun l ⟨a, as, e, f, g⟩ => by rw [g, e, f]
theorem pn_tup {ta : TA} {ds : List PyData} (h : Pa K bc cs Γ ta (· = ds.map .d)) (hz : ds.length ≤ 1000) : Pn K bc cs Γ (tTup ta) (· = .d (.tuple ds)) := fun M bs ls σ H S Q q =>
  h M bs ls σ H S _ fun ts vs H1 hts S1 k1 hvs => by
    subst hts
    have hd := hvs.data
    refine ⟨by rw [DqAll.len hd]; exact Nat.le_of_lt (small1000 hz), fun p n => ?_⟩
    have e := ex_upd (o := .tup vs) n
    refine q _ _ _ rfl (S1.ex e) (k1.trans (Kp.of_ex e)) (.tup ?_ (DqAll.ex (Kp.of_ex e).ex _ _ hd))
    rw [hid_of (nin (S1.new n)), upd_same]
theorem pf_lst {ta : TA} {T : List PyData → Prop} (h : Pa K bc cs Γ ta (fun ts => ∃ ds, T ds ∧ ts = ds.map .d)) (hz : ∀ ds, T ds → ds.length ≤ 1000) : Pf K bc cs Γ (tLst ta) T := fun M bs ls σ H S Q q =>
  h M bs ls σ H S _ fun ts vs H1 hts S1 k1 hvs => by
    obtain ⟨ds, hT, rfl⟩ := hts
    have hd := hvs.data
    refine ⟨by rw [DqAll.len hd]; exact Nat.le_of_lt (small1000 (hz ds hT)), fun p n => ?_⟩
    have e := ex_upd (o := .lst vs) n
    have n0 : H p = none := k1.free n
    refine q ds vs p _ hT n0 (S1.hide n) (k1.trans (Kp.of_ex e)) upd_same ?_
    rw [hid_new n]
    exact hd
theorem pf_lstD {ta : TA} {ds : List PyData} (h : Pa K bc cs Γ ta (· = ds.map .d)) (hz : ds.length ≤ 1000) : Pf K bc cs Γ (tLst ta) (· = ds) := pf_lst (h.mono fun t e => ⟨ds, rfl, e⟩) fun d e => by rw [e]; exact hz
end
end Z
set_option Elab.async false
set_option linter.all false
set_option maxRecDepth 100000
set_option maxHeartbeats 1000000
namespace Z
open PySem PySem.Spec PyProof.Rows L2
section
variable {K : PySem.W.Frag} {bc cs : List Cell} {Γ : List Tv} {E : XK} {N : List Cell → List Cell → List Tv → Prop} {R : List Cell → Rv → Prop} {X : Xv → Prop}
theorem Fresh.refl {ls : List Addr} {H : Hp} : Fresh ls ls H := fun _ h => .inl h
theorem Kp.step {bs ls ls1 : List Addr} {H H1 H2 : Hp} (a : Kp bs ls H H1) (f : Fresh ls ls1 H) (b : Kp bs ls1 H1 H2) : Kp bs ls H H2 := ⟨fun x o h g e => b.k x o (fun z => (f x z).elim h fun n => by rw [n] at e; cases e) g (a.k x o h g e), fun x h => b.d x (a.d x h)⟩
theorem Fresh.step {bs ls ls1 ls2 : List Addr} {H H1 : Hp} (a : Kp bs ls H H1) (f : Fresh ls ls1 H) (g : Fresh ls1 ls2 H1) : Fresh ls ls2 H := fun x h => (g x h).elim (f x) fun n => .inr (a.free n)
theorem holdsR.step {bs ls M : List Addr} {H H1 H' : Hp} (a : Kp bs ls H H1) {v : V} : ∀ {r : Rv}, holdsR K bs M H1 H' v r → holdsR K bs M H H' v r
  | .tv t, h => h
  | .fr ds, ⟨p, vs, e, n, h1, h2⟩ => ⟨p, vs, e, a.free n, h1, h2⟩
theorem Tr.mono {ts : TS} {N' : List Cell → List Cell → List Tv → Prop} {R' : List Cell → Rv → Prop} {X' : Xv → Prop} (h : Tr K bc cs Γ E ts N R X) (k : ∀ b c g, N b c g → N' b c g) (k2 : ∀ b t, R b t → R' b t) (k3 : ∀ x, X x → X' x) : Tr K bc cs Γ E ts N' R' X' := fun M bs ls σ H S D q r x =>
  h M bs ls σ H S D (fun b c g l s H' n => q b c g l s H' (k b c g n)) (fun b t v H' ht => r b t v H' (k2 b t ht)) fun y d H' hx => x y d H' (k3 y hx)
/-! ### sequence -/
theorem tr_seq {t u : TS} (h : Tr K bc cs Γ E t (fun b c g => Tr K b c g E u N R X) R X) : Tr K bc cs Γ E (tSeq t u) N R X := fun M bs ls σ H S D q r x =>
  h M bs ls σ H S { D with nx := u D } (fun b c g l s H1 n S1 k1 f1 => n M bs l s H1 S1 D (fun b' c' g' l' s' H' n' S' k' f' => q b' c' g' l' s' H' n' S' (k1.step f1 k') (f1.step k1 f'))
    (fun b' t v H' ht o cb k' hv => r b' t v H' ht o cb (k1.step f1 k') (holdsR.step k1 hv)) fun y d H' hx k' n' e => x y d H' hx (k1.step f1 k') (k1.free n') e) r x
theorem tr_next (h : N bc cs Γ) : Tr K bc cs Γ E tNext N R X := fun M bs ls σ H S D q r x => q bc cs Γ ls σ H h S (Kp.refl H) Fresh.refl
theorem tr_wk {Γ' : List Tv} {t : TS} (w : Wk Γ Γ') (h : Tr K bc cs Γ' E t N R X) : Tr K bc cs Γ E t N R X := fun M bs ls σ H S => h M bs ls σ H (S.with (S.env.wk w))
/-! ### x = e -/
theorem tr_asg {te : TE} {T : Tv → Prop} {i : Nat} (h : Pn K bc cs Γ te T) (k : ∀ t, T t → N bc cs (Γ.set i t)) : Tr K bc cs Γ E (tAsg te (gName i)) N R X := fun M bs ls σ H S D q r x =>
  h M bs ls σ H S _ fun t v H1 ht S1 k1 hv => q bc cs _ ls _ H1 (k t ht) (S1.set hv i) k1 Fresh.refl
theorem tr_set {te : TE} {t : Tv} {i : Nat} (h : Pn K bc cs Γ te (· = t)) (k : N bc cs (Γ.set i t)) : Tr K bc cs Γ E (tAsg te (gName i)) N R X := tr_asg h fun u e => by rw [e]; exact k
theorem St.newCell {M bs ls : List Addr} {σ : L2.St} {H : Hp} {p : Addr} {c : Cell} {o : HO} {i : Nat} (S : St K bc cs Γ (p :: M) bs ls σ H) (hp : H p = some o) (ha : c.P (hid (ls ++ (bs ++ (p :: M))) H) o) (np : p ∉ M) :
    St K bc (cs ++ [c]) (Γ.set i (.cel cs.length)) M bs (ls ++ [p]) (σ.set i (some (.ref p))) H := by
  have eq : hid ((ls ++ [p]) ++ (bs ++ M)) H = hid (ls ++ (bs ++ (p :: M))) H := hid_congr fun a => by
    simp only [List.mem_append, List.mem_cons, List.mem_singleton, List.not_mem_nil, or_false]
    constructor
    · rintro ((h | h) | h | h)
      · exact .inl h
      · exact .inr (.inr (.inl h))
      · exact .inr (.inl h)
      · exact .inr (.inr (.inr h))
    · rintro (h | h | h | h)
      · exact .inl (.inl h)
      · exact .inr (.inl h)
      · exact .inl (.inr h)
      · exact .inr (.inr h)
  have hlen := S.cell.len
  have pl : p ∉ ls ∧ p ∉ bs := ⟨fun z => S.dis p (List.mem_append_left _ z) List.mem_cons_self, fun z => S.dis p (List.mem_append_right _ z) List.mem_cons_self⟩
  refine ⟨?_, ?_, fun m h => S.old m (List.mem_cons_of_mem _ h), by rw [eq]; exact S.base, by rw [eq]; exact CellsOk.snoc hp ha S.cell, ?_⟩
  · have h1 := S.nd
    rw [List.append_assoc, List.singleton_append]
    rw [List.nodup_append] at h1 ⊢
    refine ⟨h1.1, List.nodup_cons.mpr ⟨pl.2, h1.2.1⟩, fun a ha b hb => ?_⟩
    rcases List.mem_cons.mp hb with e | e
    · rw [e]
      exact fun z => pl.1 (by rw [← z]; exact ha)
    · exact h1.2.2 a ha b e
  · intro a ha z
    rw [List.append_assoc, List.singleton_append] at ha
    rcases List.mem_append.mp ha with q | q
    · exact S.dis a (List.mem_append_left _ q) (List.mem_cons_of_mem _ z)
    · rcases List.mem_cons.mp q with e | e
      · rw [e] at z
        exact np z
      · exact S.dis a (List.mem_append_right _ e) (List.mem_cons_of_mem _ z)
  · rw [eq]
    have up : ∀ {σ : List (Option V)} {Γ : List Tv} {G : Hp}, Env K bs ls G σ Γ → Env K bs (ls ++ [p]) G σ Γ := by
      intro σ
      induction σ with
      | nil => intro Γ G h; cases Γ <;> first | exact h | exact h.elim
      | cons o σ ih =>
        intro Γ G h
        cases Γ with
        | nil => exact h.elim
        | cons t Γ =>
          refine ⟨?_, ih h.2⟩
          have h1 := h.1
          cases t with
          | any => trivial
          | cel k =>
            obtain ⟨v, e, a, ea, ev⟩ := h1
            exact ⟨v, e, a, by rw [List.getElem?_append_left (List.getElem?_eq_some_iff.mp ea).1]; exact ea, ev⟩
          | d x => exact h1
          | bas k => exact h1
          | sem s => exact h1
    refine Env.set (t := .cel cs.length) ?_ i (up S.env)
    exact ⟨p, by rw [← hlen]; simp, rfl⟩
/-- x = a new list, to be changed -/
theorem tr_newL {te : TE} {T : List PyData → Prop} {i : Nat} (h : Pf K bc cs Γ te T) (k : ∀ ds, T ds → N bc (cs ++ [lstC K ds]) (Γ.set i (.cel cs.length))) : Tr K bc cs Γ E (tAsg te (gName i)) N R X := fun M bs ls σ H S D q r x => by
  refine h M bs ls σ H S _ fun ds vs p H1 ht n S1 k1 hp ha => ?_
  exact q bc _ _ _ _ H1 (k ds ht) (S1.newCell hp ⟨vs, rfl, ha⟩ (S.new n).2.2) k1 fun a ha => by
    rcases List.mem_append.mp ha with z | z
    · exact .inl z
    · exact .inr (by rw [List.mem_singleton.mp z]; exact n)
/-! ### if, return -/
theorem tr_if {tt : TT} {t u : TS} {b : Bool} (h : Pt K bc cs Γ tt (· = b)) (h1 : b = true → Tr K bc cs Γ E t N R X) (h2 : b = false → Tr K bc cs Γ E u N R X) : Tr K bc cs Γ E (tIfS tt t u) N R X := fun M bs ls σ H S D q r x =>
  h M bs ls σ H S _ fun c H1 e S1 k1 => by
    subst e
    have go : ∀ {w : TS}, Tr K bc cs Γ E w N R X → w D σ H1 := fun {w} hw => hw M bs ls σ H1 S1 D (fun b' c' g' l' s' H' n' S' k' f' => q b' c' g' l' s' H' n' S' (k1.trans k') (Fresh.step k1 Fresh.refl f'))
      (fun b' t v H' ht o cb k' hv => r b' t v H' ht o cb (k1.trans k') (holdsR.step k1 hv)) fun y d H' hx k' n' e => x y d H' hx (k1.trans k') (k1.free n') e
    cases c with
    | true => exact go (h1 rfl)
    | false => exact go (h2 rfl)
/-- an if whose test is any of B -/
theorem tr_ifG {tt : TT} {t u : TS} {B : Bool → Prop} (h : Pt K bc cs Γ tt B) (h1 : B true → Tr K bc cs Γ E t N R X) (h2 : B false → Tr K bc cs Γ E u N R X) : Tr K bc cs Γ E (tIfS tt t u) N R X := fun M bs ls σ H S D q r x =>
  h M bs ls σ H S _ fun c H1 e S1 k1 => by
    have go : ∀ {w : TS}, Tr K bc cs Γ E w N R X → w D σ H1 := fun {w} hw => hw M bs ls σ H1 S1 D (fun b' c' g' l' s' H' n' S' k' f' => q b' c' g' l' s' H' n' S' (k1.trans k') (Fresh.step k1 Fresh.refl f'))
      (fun b' t v H' ht o cb k' hv => r b' t v H' ht o cb (k1.trans k') (holdsR.step k1 hv)) fun y d H' hx k' n' e => x y d H' hx (k1.trans k') (k1.free n') e
    cases c with
    | true => exact go (h1 e)
    | false => exact go (h2 e)
def Pur : Tv → Prop
  | .d _ => True
  | .sem _ => True
  | _ => False
theorem holds.out {bs ls M : List Addr} {H : Hp} {v : V} : ∀ {t : Tv}, Pur t → holds K bs ls (hid (ls ++ (bs ++ M)) H) v t → holds K bs [] (hid (bs ++ M) H) v t
  | .d x, _, h => Dq.ex (hid_more fun a m => List.mem_append_right _ m) _ _ h
  | .sem s, _, h => s.up (hid_more fun a m => List.mem_append_right _ m) h
  | .any, p, _ => p.elim
  | .cel _, p, _ => p.elim
  | .bas _, p, _ => p.elim
theorem tr_ret {te : TE} {T : Tv → Prop} (h : Pn K bc cs Γ te T) (k : ∀ t, T t → Pur t ∧ R bc (.tv t)) : Tr K bc cs Γ E (tRet te) N R X := fun M bs ls σ H S D q r x =>
  h M bs ls σ H S _ fun t v H1 ht S1 k1 hv => r bc (.tv t) v H1 (k t ht).2 S1.old (S1.base.ex (hid_more fun a m => List.mem_append_right _ m) fun _ _ _ e => e) k1 (hv.out (k t ht).1)
theorem tr_retD {te : TE} {x : PyData} (h : Pn K bc cs Γ te (· = .d x)) (k : R bc (.tv (.d x))) : Tr K bc cs Γ E (tRet te) N R X := tr_ret h fun t e => by rw [e]; exact ⟨trivial, k⟩
theorem tr_retS {te : TE} {s : Sm} (h : Pn K bc cs Γ te (· = .sem s)) (k : R bc (.tv (.sem s))) : Tr K bc cs Γ E (tRet te) N R X := tr_ret h fun t e => by rw [e]; exact ⟨trivial, k⟩
theorem St.apart {M bs ls : List Addr} {σ : L2.St} {H : Hp} {k : Nat} {a : Addr} (S : St K bc cs Γ M bs ls σ H) (e : ls[k]? = some a) : a ∉ bs ++ M := fun z => by
  have ha := List.mem_of_getElem? e
  rcases List.mem_append.mp z with q | q
  · exact (List.nodup_append.mp S.nd).2.2 a ha a q rfl
  · exact S.dis a (List.mem_append_left _ ha) q
/-- return of a cell: its list -/
theorem tr_retC {i k : Nat} {ds : List PyData} (hi : Γ[i]? = some (.cel k)) (hk : cs[k]? = some (lstC K ds)) (h : R bc (.tv (.d (.list ds)))) : Tr K bc cs Γ E (tRet (tVar i)) N R X := fun M bs ls σ H S D q r x =>
  pc (bc := bc) (cs := cs) hi M bs ls σ H S _ fun t v H1 ht S1 k1 hv => by
    subst ht
    obtain ⟨a, ea, rfl⟩ := hv
    obtain ⟨vs, h1, h2⟩ := S1.cellAt ea hk
    exact r bc _ _ H1 h S1.old (S1.base.ex (hid_more fun a m => List.mem_append_right _ m) fun _ _ _ e => e) k1 (.lst (by rw [hid_of (S1.apart ea)]; exact h1) (DqAll.ex (hid_more fun a m => List.mem_append_right _ m) _ _ h2))
/-- return of a new list: its caller may change it -/
theorem tr_retF {te : TE} {T : List PyData → Prop} (h : Pf K bc cs Γ te T) (k : ∀ ds, T ds → R bc (.fr ds)) : Tr K bc cs Γ E (tRet te) N R X := fun M bs ls σ H S D q r x =>
  h M bs ls σ H S _ fun ds vs p H1 ht n S1 k1 hp ha => r bc _ _ H1 (k ds ht) S1.show.old (S1.base.ex (hid_more fun a m => by
    rcases List.mem_cons.mp (show a ∈ p :: (bs ++ M) from m) with z | z
    · rw [z]; simp
    · exact mem3 (List.mem_append_right _ z)) fun _ _ _ e => e) k1 ⟨p, vs, rfl, n, hp, DqAll.ex (hid_more fun a m => by
    rcases List.mem_cons.mp m with z | z
    · rw [z]; simp
    · exact mem3 (List.mem_append_right _ z)) _ _ ha⟩
/-- the last cell is changed no more -/
theorem env_sub {bs ls : List Addr} {G G' : Hp} {p : Addr} {u : Tv} (e : Ex G G') (hu : holds K bs ls G' (.ref p) u) : ∀ {σ : List (Option V)} {Γ : List Tv}, Env K bs (ls ++ [p]) G σ Γ → Env K bs ls G' σ (subC ls.length u Γ)
  | [], [], h => h
  | o :: σ, t :: Γ, h => by
    have ih := env_sub (p := p) e hu h.2
    have h1 := h.1
    cases t with
    | any => exact ⟨trivial, ih⟩
    | d x => exact ⟨h1.ex e, ih⟩
    | bas k => exact ⟨h1, ih⟩
    | sem s => exact ⟨h1.ex e, ih⟩
    | cel j =>
      obtain ⟨v, ev, a, ea, rfl⟩ := h1
      show Env K bs ls G' (o :: σ) ((if j = ls.length then u else .cel j) :: subC ls.length u Γ)
      refine ⟨?_, ih⟩
      by_cases q : j = ls.length
      · rw [if_pos q]
        rw [q, List.getElem?_append_right (Nat.le_refl _), Nat.sub_self] at ea
        have ep : p = a := Option.some.inj ea
        rw [ev, ← ep]
        exact slot_of hu
      · rw [if_neg q]
        have lt : j < ls.length := by
          have := (List.getElem?_eq_some_iff.mp ea).1
          simp at this
          omega
        exact ⟨_, ev, a, by rw [List.getElem?_append_left lt] at ea; exact ea, rfl⟩
  | [], _ :: _, h => h.elim
  | _ :: _, [], h => h.elim
theorem tr_freeze {ds : List PyData} {t : TS} (h : Tr K bc cs (subC cs.length (.d (.list ds)) Γ) E t N R X) : Tr K bc (cs ++ [lstC K ds]) Γ E t N R X := fun M bs ls σ H S D q r x => by
  obtain ⟨ls', p, o, rfl, c1, hp, vs, rfl, ha⟩ := CellsOk.init S.cell
  have hlen := c1.len
  have hap : p ∉ ls' ++ (bs ++ M) := fun z => by
    have nd := S.nd
    rw [List.append_assoc, List.singleton_append, List.nodup_append] at nd
    simp only [List.mem_append] at z
    rcases z with z | z | z
    · exact nd.2.2 p z p List.mem_cons_self rfl
    · exact (List.nodup_cons.mp nd.2.1).1 z
    · exact S.dis p (by simp) z
  have g : Ex (hid ((ls' ++ [p]) ++ (bs ++ M)) H) (hid (ls' ++ (bs ++ M)) H) := hid_more fun a m => by
    simp only [List.mem_append] at m ⊢
    rcases m with m | m
    · exact .inl (.inl m)
    · exact .inr m
  have S' : St K bc cs (subC cs.length (.d (.list ds)) Γ) M bs ls' σ H := by
    refine ⟨?_, fun a m => S.dis a (by
      simp only [List.mem_append] at m ⊢
      rcases m with m | m
      · exact .inl (.inl m)
      · exact .inr m), S.old, S.base.ex g fun _ _ _ e => e, c1.ex g fun _ _ _ e => e, ?_⟩
    · have nd := S.nd
      rw [List.append_assoc, List.singleton_append, List.nodup_append] at nd
      rw [List.nodup_append]
      exact ⟨nd.1, (List.nodup_cons.mp nd.2.1).2, fun a ha b hb => nd.2.2 a ha b (List.mem_cons_of_mem _ hb)⟩
    · rw [← hlen]
      exact env_sub (u := .d (.list ds)) g (Dq.lst (by rw [hid_of hap]; exact hp) (DqAll.ex g _ _ ha)) S.env
  have kk : ∀ {H'}, Kp bs ls' H H' → Kp bs (ls' ++ [p]) H H' := fun {H'} k => ⟨fun b o h1 h2 e => k.k b o (fun z => h1 (List.mem_append_left _ z)) h2 e, k.d⟩
  exact h M bs ls' σ H S' D (fun b' c' g' l' s' H' n' S'' k' f' => q b' c' g' l' s' H' n' S'' (kk k') fun a ha => (f' a ha).imp (fun z => List.mem_append_left _ z) id)
    (fun b' t v H' ht o cb k' hv => r b' t v H' ht o cb (kk k') hv) fun y d H' hx k' n' e => x y d H' hx (kk k') n' e
end
end Z
set_option Elab.async false
set_option linter.all false
set_option maxRecDepth 100000
set_option maxHeartbeats 1000000
namespace Z
open PySem PySem.Spec PyProof.Rows L2
section
variable {K : PySem.W.Frag} {bc cs : List Cell} {Γ : List Tv} {E : XK} {N : List Cell → List Cell → List Tv → Prop} {R : List Cell → Rv → Prop} {X : Xv → Prop}
/-! ### a list that stays as it is, tracked -/
def sLst (K : PySem.W.Frag) (ds : List PyData) : Sm := ⟨fun H v => ∃ a vs, v = .ref a ∧ H a = some (.lst vs) ∧ DqAll K H vs ds, fun e ⟨a, vs, h1, h2, h3⟩ => ⟨a, vs, h1, e _ _ h2, DqAll.ex e _ _ h3⟩⟩
theorem sLst.d {H : Hp} {v : V} {ds : List PyData} (h : (sLst K ds).P H v) : Dq K H v (.list ds) := by
  obtain ⟨a, vs, rfl, h1, h2⟩ := h
  exact .lst h1 h2
theorem Pf.ps {te : TE} {T : List PyData → Prop} (h : Pf K bc cs Γ te T) : Pn K bc cs Γ te (fun t => ∃ ds, T ds ∧ t = .sem (sLst K ds)) := fun M bs ls σ H S Q q =>
  h M bs ls σ H S Q fun ds vs p H' ht n S' k hp ha => q _ _ H' ⟨ds, ht, rfl⟩ S'.show k ⟨p, vs, rfl, by rw [hid_of (nin (S.new n))]; exact hp, DqAll.ex (hid_more fun a h => mem3 h) _ _ ha⟩
theorem Pf.psd {te : TE} {ds : List PyData} (h : Pf K bc cs Γ te (· = ds)) : Pn K bc cs Γ te (· = .sem (sLst K ds)) := h.ps.mono fun t ⟨d, e, f⟩ => by rw [f, e]
/-- read as data -/
theorem pn_lst {te : TE} {ds : List PyData} (h : Pn K bc cs Γ te (· = .sem (sLst K ds))) : Pn K bc cs Γ te (· = .d (.list ds)) := fun M bs ls σ H S Q q =>
  h M bs ls σ H S Q fun t v H' ht S' k hv => by
    subst ht
    exact q _ _ H' rfl S' k (sLst.d hv)
theorem pl {i : Nat} {ds : List PyData} (h : Γ[i]? = some (.sem (sLst K ds))) : Pn K bc cs Γ (tVar i) (· = .d (.list ds)) := pn_lst (ps h)

/-! ### places -/
/-- alive, in ls only what is new or was -/
theorem ex_grow {M bs ls ls' : List Addr} {H1 H' : Hp} (k : Kp bs ls H1 H') (f : Fresh ls ls' H1) : Ex (hid (ls ++ (bs ++ M)) H1) (hid (ls' ++ (bs ++ M)) H') := fun b o e => by
  obtain ⟨h1, h2⟩ := hid_at e
  have n : b ∉ ls' ++ (bs ++ M) := fun z => by
    rcases List.mem_append.mp z with z | z
    · rcases f b z with q | q
      · exact h1 (List.mem_append_left _ q)
      · rw [q] at h2
        cases h2
    · exact h1 (List.mem_append_right _ z)
  rw [hid_of n]
  exact k.k b o (fun z => h1 (List.mem_append_left _ z)) (fun z => h1 (List.mem_append_right _ (List.mem_append_left _ z))) h2
theorem CellsOk.alive {G H : Hp} : ∀ {as : List Addr} {ds : List Cell}, CellsOk G H as ds → ∀ a, a ∈ as → Lv (H a)
  | [], [], _, _, m => by cases m
  | a :: as, c :: cs, h, x, m => by
    rcases List.mem_cons.mp m with e | e
    · obtain ⟨o, q, hp⟩ := h.1
      rw [e, q]
      exact c.nt hp
    · exact CellsOk.alive h.2 x e
  | [], _ :: _, h, _, _ => h.elim
  | _ :: _, [], h, _, _ => h.elim
theorem St.alive {M bs ls : List Addr} {σ : L2.St} {H : Hp} (S : St K bc cs Γ M bs ls σ H) : ∀ a, a ∈ ls ++ (bs ++ M) → Lv (H a) := fun a m => by
  rcases List.mem_append.mp m with m | m
  · exact S.cell.alive a m
  · rcases List.mem_append.mp m with m | m
    · exact S.base.alive a m
    · exact S.old a m

/-! ### what is walked -/
/-- the items ds, one a turn -/
def Si (K : PySem.W.Frag) (bc cs : List Cell) (Γ : List Tv) (wi : TI) (T : List PyData → Prop) : Prop := ∀ M bs ls σ H, St K bc cs Γ M bs ls σ H → ∀ R : It → Hp → Prop,
  (∀ J ds H1 G Y, T ds → St K bc cs Γ M bs ls σ H1 → Kp bs ls H H1 → Walk J ds.length G Y → (∀ H2, Ex (hid (ls ++ (bs ++ M)) H1) H2 → G H2) →
    (∀ i H2 x H3, i < ds.length → Ex (hid (ls ++ (bs ++ M)) H1) H2 → Y i H2 x H3 → Ex H2 H3 ∧ ∃ d, ds[i]? = some d ∧ ∀ W', Ex (hid (ls ++ (bs ++ M)) H1) (hid W' H2) → (∀ a, a ∈ W' → H2 a ≠ none) → Dq K (hid W' H3) x d) → R J H1) → wi σ H R
def iSeq (K : PySem.W.Frag) (te : TE) : TI := fun σ H R => iList K te σ H R ∨ iTup K te σ H R
theorem pi_or {Xc : Cx} {tg e : Expr} {t u : TI} (h : PI Xc tg e t) (g : PI Xc tg e u) : PI Xc tg e (fun σ H R => t σ H R ∨ u σ H R) := ⟨fun pins s σ H R I w => w.elim (h.run pins s σ H R I) (g.run pins s σ H R I)⟩
theorem pi_seq {Xc : Cx} {tg e : Expr} {te : TE} (h : PE Xc e te) : PI Xc tg e (iSeq Xc.K te) := pi_or (pi_list h) (pi_tup h)
theorem si_walk {M bs ls : List Addr} {H1 : Hp} {vs : List V} {ds : List PyData} (ha : DqAll K (hid (ls ++ (bs ++ M)) H1) vs ds) : ∀ i H2 x H3, i < ds.length → Ex (hid (ls ++ (bs ++ M)) H1) H2 → YAt vs i H2 x H3 → Ex H2 H3 ∧ ∃ d, ds[i]? = some d ∧ ∀ W', Ex (hid (ls ++ (bs ++ M)) H1) (hid W' H2) → (∀ a, a ∈ W' → H2 a ≠ none) → Dq K (hid W' H3) x d := by
  intro i H2 x H3 hi _ y
  obtain ⟨rfl, hx⟩ := y
  obtain ⟨d, hd, dp⟩ := DqAll.getV ha hx
  exact ⟨Ex.refl _, d, hd, fun W' e _ => Dq.ex e _ _ dp⟩
theorem si_listG {te : TE} {T : List PyData → Prop} (h : Pn K bc cs Γ te (fun t => ∃ ds, T ds ∧ t = .d (.list ds))) : Si K bc cs Γ (iList K te) T := fun M bs ls σ H S R q =>
  h M bs ls σ H S _ fun t v H1 ht S1 k1 hv => by
    obtain ⟨ds, hT, rfl⟩ := ht
    cases hv with
    | lst hs ha =>
      rename_i a vs
      have hl := DqAll.len ha
      exact ⟨_, rfl, ⟨vs, SqL.of (hid_ex _ _ hs)⟩, q _ ds H1 _ _ hT S1 k1 (by rw [← hl]; exact walk_list (K := K) (a := a) (xs := vs)) (fun H2 e => SqL.of (e _ _ hs)) (si_walk ha)⟩
theorem si_tupG {te : TE} {T : List PyData → Prop} (h : Pn K bc cs Γ te (fun t => ∃ ds, T ds ∧ t = .d (.tuple ds))) : Si K bc cs Γ (iTup K te) T := fun M bs ls σ H S R q =>
  h M bs ls σ H S _ fun t v H1 ht S1 k1 hv => by
    obtain ⟨ds, hT, rfl⟩ := ht
    cases hv with
    | tup hs ha =>
      rename_i a vs
      have hl := DqAll.len ha
      exact ⟨_, rfl, ⟨vs, SqT.of (hid_ex _ _ hs)⟩, q _ ds H1 _ _ hT S1 k1 (by rw [← hl]; exact walk_tup (K := K) (a := a) (xs := vs)) (fun H2 e => SqT.of (e _ _ hs)) (si_walk ha)⟩
theorem si_list {te : TE} {ds : List PyData} (h : Pn K bc cs Γ te (· = .d (.list ds))) : Si K bc cs Γ (iList K te) (· = ds) := si_listG (h.mono fun t e => ⟨ds, rfl, e⟩)
theorem si_tup {te : TE} {ds : List PyData} (h : Pn K bc cs Γ te (· = .d (.tuple ds))) : Si K bc cs Γ (iTup K te) (· = ds) := si_tupG (h.mono fun t e => ⟨ds, rfl, e⟩)
theorem si_seqL {te : TE} {ds : List PyData} (h : Pn K bc cs Γ te (· = .d (.list ds))) : Si K bc cs Γ (iSeq K te) (· = ds) := fun M bs ls σ H S R q => .inl (si_list h M bs ls σ H S R q)
theorem si_seqT {te : TE} {ds : List PyData} (h : Pn K bc cs Γ te (· = .d (.tuple ds))) : Si K bc cs Γ (iSeq K te) (· = ds) := fun M bs ls σ H S R q => .inr (si_tup h M bs ls σ H S R q)
def rgD (a n : Nat) : List PyData := (List.range n).map fun i => .int ((a + i : Nat) : Int)
theorem rgD_at {a n i : Nat} (h : i < n) : (rgD a n)[i]? = some (.int ((a + i : Nat) : Int)) := by
  unfold rgD
  rw [List.getElem?_map, List.getElem?_range h]
  rfl
theorem rgD_len {a n : Nat} : (rgD a n).length = n := by simp [rgD]
theorem rgD_get {a n i : Nat} {d : PyData} (h : (rgD a n)[i]? = some d) : i < n ∧ d = .int ((a + i : Nat) : Int) := by
  have hi : i < n := by
    have := (List.getElem?_eq_some_iff.mp h).1
    rwa [rgD_len] at this
  rw [rgD_at hi] at h
  exact ⟨hi, (Option.some.inj h).symm⟩
theorem si_rg {M bs ls : List Addr} {H1 : Hp} {lo : Int} {a n : Nat} (e : lo = a) : ∀ i H2 x H3, i < (rgD a n).length → Ex (hid (ls ++ (bs ++ M)) H1) H2 → YFn (fun i => .int (lo + i)) i H2 x H3 → Ex H2 H3 ∧ ∃ d, (rgD a n)[i]? = some d ∧ ∀ W', Ex (hid (ls ++ (bs ++ M)) H1) (hid W' H2) → (∀ a, a ∈ W' → H2 a ≠ none) → Dq K (hid W' H3) x d := by
  intro i H2 x H3 hi _ y
  obtain ⟨rfl, rfl⟩ := y
  rw [rgD_len] at hi
  refine ⟨Ex.refl _, _, rgD_at hi, fun W' _ _ => ?_⟩
  have : lo + (i : Int) = ((a + i : Nat) : Int) := by rw [e]; omega
  show Dq K (hid W' _) (V.int (lo + (i : Int))) _
  rw [this]
  exact .int _
theorem si_rng1 {te : TE} {n : Nat} (h : Pn K bc cs Γ te (· = .d (.int n))) (hn : n ≤ 1000000) : Si K bc cs Γ (iRng1 (tCons te tNil)) (· = rgD 0 n) := fun M bs ls σ H S R q =>
  h M bs ls σ H S _ fun t v H1 ht S1 k1 hv => by
    subst ht
    cases hv
    refine ⟨n, rfl, by omega, by omega, q _ _ H1 _ _ rfl S1 k1 (by rw [rgD_len]; exact walk_range) (fun _ _ => trivial) (si_rg (by rfl))⟩
theorem si_rng2 {ta tb : TE} {a b : Nat} (h : Pn K bc cs Γ ta (· = .d (.int a))) (g : Pn K bc cs Γ tb (· = .d (.int b))) (ha : a ≤ 1000000) (hb : b ≤ 1000000) : Si K bc cs Γ (iRng2 (tCons ta (tCons tb tNil))) (· = rgD a (b - a)) := fun M bs ls σ H S R q =>
  h M bs ls σ H S _ fun t v H1 ht S1 k1 hv => g M bs ls σ H1 S1 _ fun t2 v2 H2 ht2 S2 k2 hv2 => by
    subst ht ht2
    cases hv
    cases hv2
    have e : ((b : Int) - (a : Int)).toNat = b - a := by omega
    refine ⟨a, b, rfl, by omega, ?_⟩
    rw [e]
    exact q _ _ H2 _ _ rfl S2 (k1.trans k2) (by rw [rgD_len]; exact walk_range) (fun _ _ => trivial) (si_rg (by rfl))

/-! ### targets -/
/-- d is stored: the slots `is` are written -/
def Tg (K : PySem.W.Frag) (g : TG) (d : PyData) (Γ Γ' : List Tv) (is : List Nat) : Prop := ∀ bs ls W H σ x, Env K bs ls (hid W H) σ Γ → Dq K (hid W H) x d → ∀ Q : L2.St → Hp → Prop,
  (∀ σ', Env K bs ls (hid W H) σ' Γ' → (∀ vs, (∀ i, i ∈ is → i ∈ vs) → wipe σ' vs = wipe σ vs) → Q σ' H) → g x σ H Q
theorem wipe_set {σ : L2.St} {i : Nat} {o : Option V} : ∀ {vs : List Nat}, i ∈ vs → wipe (σ.set i o) vs = wipe σ vs := by
  have key : ∀ {vs : List Nat} {j : Nat} {o : Option V}, wipe (σ.set j o) vs = (if j ∈ vs then wipe σ vs else (wipe σ vs).set j o) := by
    intro vs
    induction vs with
    | nil => intro j o; rfl
    | cons v vs ih =>
      intro j o
      show (wipe (σ.set j o) vs).set v none = _
      rw [ih]
      by_cases m : j ∈ vs
      · rw [if_pos m, if_pos (List.mem_cons_of_mem _ m)]
        rfl
      · rw [if_neg m]
        by_cases e : j = v
        · rw [if_pos (by rw [e]; exact List.mem_cons_self), e, List.set_set]
          rfl
        · rw [if_neg (fun z => by rcases List.mem_cons.mp z with q | q; exact e q; exact m q), List.set_comm _ _ e]
          rfl
  intro vs h
  rw [key, if_pos h]
theorem tg_name {i : Nat} {d : PyData} : Tg K (gName i) d Γ (Γ.set i (.d d)) [i] := fun bs ls W H σ x e h Q q => q _ (Env.set (t := .d d) h i e) fun vs m => wipe_set (m i List.mem_cons_self)
/-- targets side by side -/
def TgL (K : PySem.W.Frag) (g : TGs) (ds : List PyData) (Γ Γ' : List Tv) (is : List Nat) : Prop := ∀ bs ls W H σ xs, Env K bs ls (hid W H) σ Γ → DqAll K (hid W H) xs ds → ∀ Q : L2.St → Hp → Prop,
  (∀ σ', Env K bs ls (hid W H) σ' Γ' → (∀ vs, (∀ i, i ∈ is → i ∈ vs) → wipe σ' vs = wipe σ vs) → Q σ' H) → g xs σ H Q
theorem tgl_nil : TgL K gNil [] Γ Γ [] := fun bs ls W H σ xs e h Q q => by
  cases h
  exact ⟨rfl, q σ e fun _ _ => rfl⟩
theorem tgl_cons {g : TG} {gs : TGs} {d : PyData} {ds : List PyData} {Γ1 Γ2 : List Tv} {is js : List Nat} (h : Tg K g d Γ Γ1 is) (r : TgL K gs ds Γ1 Γ2 js) : TgL K (gCons g gs) (d :: ds) Γ Γ2 (is ++ js) := fun bs ls W H σ xs e hx Q q => by
  cases hx with
  | cons h1 h2 =>
    exact ⟨_, _, rfl, h bs ls W H σ _ e h1 _ fun σ1 e1 w1 => r bs ls W H σ1 _ e1 h2 Q fun σ2 e2 w2 => q σ2 e2 fun vs m => (w2 vs fun i hi => m i (List.mem_append_right _ hi)).trans (w1 vs fun i hi => m i (List.mem_append_left _ hi))⟩
theorem tg_tup {n : Nat} {g : TGs} {ds : List PyData} {Γ' : List Tv} {is : List Nat} (h : TgL K g ds Γ Γ' is) (hn : ds.length = n) : Tg K (gTup K n g) (.tuple ds) Γ Γ' is := fun bs ls W H σ x e hx Q q => by
  cases hx with
  | tup hs ha => exact ⟨_, _, rfl, SqT.of (hid_ex _ _ hs), by rw [DqAll.len ha]; exact hn, h bs ls W H σ _ e ha Q q⟩
theorem tg_2 {i j : Nat} {a b : PyData} : Tg K (gTup K 2 (gCons (gName i) (gCons (gName j) gNil))) (.tuple [a, b]) Γ ((Γ.set i (.d a)).set j (.d b)) [i, j] := tg_tup (tgl_cons tg_name (tgl_cons tg_name tgl_nil)) rfl
theorem tg_3 {i j k : Nat} {a b c : PyData} : Tg K (gTup K 3 (gCons (gName i) (gCons (gName j) (gCons (gName k) gNil)))) (.tuple [a, b, c]) Γ (((Γ.set i (.d a)).set j (.d b)).set k (.d c)) [i, j, k] := tg_tup (tgl_cons tg_name (tgl_cons tg_name (tgl_cons tg_name tgl_nil))) rfl
/-- a, b = e -/
theorem tr_asgG {te : TE} {g : TG} {d : PyData} {Γ' : List Tv} {is : List Nat} (h : Pn K bc cs Γ te (· = .d d)) (t : Tg K g d Γ Γ' is) (k : N bc cs Γ') : Tr K bc cs Γ E (tAsg te g) N R X := fun M bs ls σ H S D q r x =>
  h M bs ls σ H S _ fun u v H1 hu S1 k1 hv => by
    subst hu
    exact t bs ls (ls ++ (bs ++ M)) H1 σ v S1.env hv _ fun σ' e _ => q bc cs _ ls _ H1 k (S1.with e) k1 Fresh.refl

/-! ### for -/
theorem tr_for {wi : TI} {g : TG} {tb : TS} {T : List PyData → Prop} (hs : Si K bc cs Γ wi T) (I : List PyData → Nat → List Cell → List Cell → List Tv → Prop)
    (h0 : ∀ ds, T ds → I ds 0 bc cs Γ) (step : ∀ ds i d b c γ, T ds → ds[i]? = some d → I ds i b c γ → ∃ γ' is, Tg K g d γ γ' is ∧ Tr K b c γ' E tb (I ds (i + 1)) R X)
    (hd : ∀ ds b c γ, T ds → I ds ds.length b c γ → N b c γ) : Tr K bc cs Γ E (tFor wi g tb) N R X := fun M bs ls σ H S D q r x => by
  refine hs M bs ls σ H S _ fun J ds H1 G Y hT S1 k1 w hG hY => ?_
  refine for_it w (fun i σ' H' => ∃ b c γ ls', I ds i b c γ ∧ St K b c γ M bs ls' σ' H' ∧ Kp bs ls H1 H' ∧ Fresh ls ls' H1) ⟨bc, cs, Γ, ls, h0 ds hT, S1, Kp.refl _, Fresh.refl⟩ ?_ ?_ ?_
  · rintro i σ' H' _ ⟨b, c, γ, ls', _, _, k, f⟩
    exact hG H' (Ex.trans k.ex hid_ex)
  · rintro i y σ' H' H'' hi ⟨b, c, γ, ls', hI, S', k, f⟩ hy
    obtain ⟨ex, d, hdd, hdp⟩ := hY i H' y H'' hi (Ex.trans k.ex hid_ex) hy
    obtain ⟨γ', is, tg, tr⟩ := step ds i d b c γ hT hdd hI
    have S2 := S'.ex ex
    have dp := hdp _ (ex_grow (M := M) k f) fun a m => (S'.alive a m).1
    have kk : Kp bs ls' H' H'' := Kp.of_ex ex
    refine tg bs ls' (ls' ++ (bs ++ M)) H'' σ' y S2.env dp _ fun σ2 e2 _ => ?_
    refine tr M bs ls' σ2 H'' (S2.with e2) _ (fun b3 c3 g3 l3 s3 H3 n3 S3 k3 f3 => ?_) (fun b3 r3 v H3 h3 o3 cb k3 hv => ?_) (fun y3 d3 H3 hx k3 n3 e3 => ?_)
    · have k4 : Kp bs ls' H' H3 := kk.trans k3
      exact ⟨b3, c3, g3, l3, n3, S3, k.step f k4, Fresh.step k f (Fresh.step kk Fresh.refl f3)⟩
    · have k5 := (k1.step Fresh.refl k).step (Fresh.step k1 Fresh.refl f) (kk.trans k3)
      exact r b3 r3 v H3 h3 o3 cb k5 (holdsR.step k1 (holdsR.step k (holdsR.step kk hv)))
    · have k5 := (k1.step Fresh.refl k).step (Fresh.step k1 Fresh.refl f) (kk.trans k3)
      exact x y3 d3 H3 hx k5 (k1.free (k.free (kk.free n3))) e3
  · rintro σ' H' ⟨b, c, γ, ls', hI, S', k, f⟩
    exact q b c γ ls' σ' H' (hd ds b c γ hT hI) S' (k1.trans k) (Fresh.step k1 Fresh.refl f)
/-! ### comprehensions -/
def wipeT (Γ : List Tv) : List Nat → List Tv
  | [] => Γ
  | v :: vs => (wipeT Γ vs).set v .any
theorem Env.wipes {bs ls : List Addr} {H : Hp} {σ : L2.St} (h : Env K bs ls H σ Γ) : ∀ vs : List Nat, Env K bs ls H (wipe σ vs) (wipeT Γ vs)
  | [] => h
  | v :: vs => Env.wipe1 v (Env.wipes h vs)
theorem St.updM {M bs ls : List Addr} {σ : L2.St} {H : Hp} {p : Addr} {o : HO} (S : St K bc cs Γ M bs ls σ H) (m : p ∈ M) (lv : Lv (some o) := by exact lv_lst) : St K bc cs Γ M bs ls σ (upd H p o) := by
  have np : p ∉ ls ++ bs := fun z => S.dis p z m
  have hw : p ∈ ls ++ (bs ++ M) := List.mem_append_right _ (List.mem_append_right _ m)
  refine ⟨S.nd, S.dis, fun x hx => ?_, ?_, ?_, ?_⟩
  · by_cases e : x = p
    · rw [e, upd_same]
      exact lv
    · rw [upd_ne e]
      exact S.old x hx
  · rw [hid_upd hw]
    exact S.base.ex (Ex.refl _) fun a o' ha e => by rw [upd_ne fun z => np (by rw [← z]; exact List.mem_append_right _ ha)]; exact e
  · rw [hid_upd hw]
    exact S.cell.ex (Ex.refl _) fun a o' ha e => by rw [upd_ne fun z => np (by rw [← z]; exact List.mem_append_left _ ha)]; exact e
  · rw [hid_upd hw]
    exact S.env
theorem pf_lc {wi : TI} {g : TG} {tt : TT} {te : TE} {vs : List Nat} {T : List PyData → Prop} {TR : List PyData → Prop} (hs : Si K bc cs Γ wi T) (A : List PyData → Nat → List PyData → Prop) (h0 : ∀ ds, T ds → A ds 0 [])
    (hz : ∀ ds i acc, T ds → A ds i acc → acc.length ≤ 1000)
    (step : ∀ ds i d, T ds → ds[i]? = some d → ∃ γ' is, Tg K g d (wipeT Γ vs) γ' is ∧ (∀ i, i ∈ is → i ∈ vs) ∧ ∃ B : Bool → Prop, Pt K bc cs γ' tt B ∧
      (B true → Pn K bc cs γ' te (fun t => ∃ y, t = .d y ∧ ∀ acc, A ds i acc → A ds (i + 1) (acc ++ [y]))) ∧ (B false → ∀ acc, A ds i acc → A ds (i + 1) acc))
    (hd : ∀ ds acc, T ds → A ds ds.length acc → TR acc) : Pf K bc cs Γ (tLc wi g tt te vs) TR := fun M bs ls σ H S Q q => by
  refine hs M bs ls σ H S _ fun J ds H1 G Y hT S1 k1 w hG hY D nD => ?_
  have nDs := S1.new nD
  let Pv : Nat → Hp → Prop := fun i H' => ∃ acc vs', A ds i acc ∧ H' D = some (.lst vs') ∧ DqAll K (hid (ls ++ (bs ++ (D :: M))) H') vs' acc ∧ St K bc cs Γ (D :: M) bs ls σ H' ∧ Kp bs ls H1 H'
  refine lc_it w Pv ⟨[], [], h0 ds hT, upd_same, .nil, S1.hide nD, Kp.of_ex (ex_upd nD)⟩ ?_ ?_ ?_
  · rintro i H' _ ⟨acc, vs', _, _, _, _, k⟩
    exact hG H' (Ex.trans k.ex hid_ex)
  · rintro i y H' H'' hi ⟨acc, vs', hA, hD, hacc, S', k⟩ hy
    obtain ⟨ex, d, hdd, hdp⟩ := hY i H' y H'' hi (Ex.trans k.ex hid_ex) hy
    obtain ⟨γ', is, tg, his, B, pt, pe, pe'⟩ := step ds i d hT hdd
    have S2 := S'.ex ex
    have gx : Ex (hid (ls ++ (bs ++ M)) H1) (hid (ls ++ (bs ++ (D :: M))) H') := fun b o e => by
      obtain ⟨a1, a2⟩ := hid_at e
      have nb : b ≠ D := fun z => by rw [z, nD] at a2; cases a2
      rw [hid_of fun z => a1 (mem4 nb z)]
      exact k.k b o (fun z => a1 (List.mem_append_left _ z)) (fun z => a1 (List.mem_append_right _ (List.mem_append_left _ z))) a2
    have dp := hdp _ gx fun a m => (S'.alive a m).1
    refine tg bs ls (ls ++ (bs ++ (D :: M))) H'' (wipe σ vs) y (S2.env.wipes vs) dp _ fun σ2 e2 w2 => ⟨?_, ?_⟩
    · have e3 := w2 vs his
      rw [e3]
      have ww : ∀ us : List Nat, (∀ u, u ∈ us → u ∈ vs) → wipe (wipe σ vs) us = wipe σ vs := by
        have key : ∀ (us : List Nat) (u : Nat), u ∈ us → (wipe σ us).set u none = wipe σ us := by
          intro us
          induction us with
          | nil => intro u h; cases h
          | cons v us ih =>
            intro u h
            show ((wipe σ us).set v none).set u none = (wipe σ us).set v none
            by_cases e : u = v
            · rw [e, List.set_set]
            · rcases List.mem_cons.mp h with z | z
              · exact absurd z e
              · rw [List.set_comm _ _ (fun q => e q.symm), ih u z]
        intro us
        induction us with
        | nil => intro _; rfl
        | cons u us ih =>
          intro h
          show (wipe (wipe σ vs) us).set u none = _
          rw [ih fun x hx => h x (List.mem_cons_of_mem _ hx)]
          exact key vs u (h u List.mem_cons_self)
      exact ww vs fun _ h => h
    · have kk : Kp bs ls H' H'' := Kp.of_ex ex
      refine pt (D :: M) bs ls σ2 H'' (S2.with e2) _ fun b H3 hb S3 k3 => ?_
      have S3' : ∀ {H4 : Hp}, St K bc cs γ' (D :: M) bs ls σ2 H4 → Kp bs ls H' H4 → St K bc cs Γ (D :: M) bs ls σ H4 := fun {H4} S4 k4 => S4.with (S'.env.ex k4.ex)
      have nd : D ∉ ls ∧ D ∉ bs := ⟨fun z => S'.dis D (List.mem_append_left _ z) List.mem_cons_self, fun z => S'.dis D (List.mem_append_right _ z) List.mem_cons_self⟩
      cases b with
      | false =>
        rw [if_neg (by decide)]
        have k4 := kk.trans k3
        exact ⟨acc, vs', pe' hb acc hA, k4.k D _ nd.1 nd.2 hD, DqAll.ex k4.ex _ _ hacc, S3' S3 k4, k.trans k4⟩
      | true =>
        rw [if_pos rfl]
        refine pe hb (D :: M) bs ls σ2 H3 S3 _ fun t z H4 ht S4 k4 hz2 => ?_
        obtain ⟨yd, rfl, hA'⟩ := ht
        have k5 := (kk.trans k3).trans k4
        have hD4 := k5.k D _ nd.1 nd.2 hD
        have hacc4 := DqAll.ex k5.ex _ _ hacc
        have hl := DqAll.len hacc
        have hin : D ∈ ls ++ (bs ++ (D :: M)) := by simp
        refine ⟨vs', hD4, by rw [hl]; exact small1000 (hz ds i acc hT hA), acc ++ [yd], vs' ++ [z], hA' acc hA, upd_same, ?_, (S3' S4 k5).updM List.mem_cons_self, ?_⟩
        · rw [hid_upd hin]
          exact DqAll.app hacc4 (DqAll.one hz2)
        · have k6 := k.trans k5
          refine ⟨fun b o h1 h2 e => ?_, fun b h => ?_⟩
          · rw [upd_ne fun z => by rw [z, nD] at e; cases e]
            exact k6.k b o h1 h2 e
          · by_cases e : b = D
            · rw [e, upd_same]
              exact fun z => by cases z
            · rw [upd_ne e]
              exact k6.d b h
  · rintro H' ⟨acc, vs', hA, hD, hacc, S', k⟩
    exact q acc vs' D H' (hd ds acc hT hA) (k1.free nD) S' (k1.trans k) hD hacc
end
end Z
set_option Elab.async false
set_option linter.all false
set_option maxRecDepth 100000
set_option maxHeartbeats 1000000
namespace Z
open PySem PySem.Spec PyProof.Rows L2
section
variable {K : PySem.W.Frag} {bc cs : List Cell} {Γ : List Tv} {E : XK} {N : List Cell → List Cell → List Tv → Prop} {R : List Cell → Rv → Prop} {X : Xv → Prop}
/-! ### the promise of a def -/
/-- base cells bc (kept as they are told); arguments by ts; answers by R -/
def Pro {ι : Type} (K : PySem.W.Frag) (bc : List Cell) (ts : ι → List Tv) (R : ι → Rv → Prop) : Sp := fun vs H Q _ => ∃ i M bs, St K bc [] (ts i) M bs [] (vs.map some) H ∧
  ∀ r v H', R i r → (∀ m, m ∈ M → Lv (H' m)) → CellsOk (hid (own v r ++ (bs ++ M)) H') H' bs bc → Kp bs [] H H' → holdsR K bs M H H' v r → Q v H'
/-- .. that may raise -/
def ProX {ι : Type} (K : PySem.W.Frag) (bc : List Cell) (ts : ι → List Tv) (R : ι → Rv → Prop) (X : ι → Xv → Prop) : Sp := fun vs H Q E => ∃ i M bs, St K bc [] (ts i) M bs [] (vs.map some) H ∧
  (∀ r v H', R i r → (∀ m, m ∈ M → Lv (H' m)) → CellsOk (hid (own v r ++ (bs ++ M)) H') H' bs bc → Kp bs [] H H' → holdsR K bs M H H' v r → Q v H') ∧
  (∀ x d H', X i x → Kp bs [] H H' → H d = none → H' d = some (.xd x.fs) → E (.ref x.C) (some d) H')
theorem Env.len {bs ls : List Addr} {H : Hp} : ∀ {σ : L2.St} {Γ : List Tv}, Env K bs ls H σ Γ → σ.length = Γ.length
  | [], [], _ => rfl
  | _ :: _, _ :: _, h => congrArg (· + 1) (Env.len h.2)
  | [], _ :: _, h => h.elim
  | _ :: _, [], h => h.elim
theorem Env.start {bs ls : List Addr} {H : Hp} {n : Nat} : ∀ {σ : L2.St} {Γ : List Tv}, Env K bs ls H σ Γ → Env K bs ls H (σ ++ List.replicate n none) (Γ ++ List.replicate n .any)
  | [], [], _ => by
    show Env K bs ls H (List.replicate n none) (List.replicate n .any)
    induction n with
    | zero => trivial
    | succ n ih => exact ⟨trivial, ih⟩
  | _ :: _, _ :: _, h => ⟨h.1, Env.start h.2⟩
  | [], _ :: _, h => h.elim
  | _ :: _, [], h => h.elim
theorem Pro.len {ι : Type} {ts : ι → List Tv} {R : ι → Rv → Prop} {n : Nat} (hn : ∀ i, (ts i).length = n) {vs : List V} {H : Hp} {Q : VK} {E : XK} (h : Pro K bc ts R vs H Q E) : vs.length = n := by
  obtain ⟨i, M, bs, S, _⟩ := h
  have := S.env.len
  rw [List.length_map, hn i] at this
  exact this
theorem ProX.len {ι : Type} {ts : ι → List Tv} {R : ι → Rv → Prop} {X : ι → Xv → Prop} {n : Nat} (hn : ∀ i, (ts i).length = n) {vs : List V} {H : Hp} {Q : VK} {E : XK} (h : ProX K bc ts R X vs H Q E) : vs.length = n := by
  obtain ⟨i, M, bs, S, _⟩ := h
  have := S.env.len
  rw [List.length_map, hn i] at this
  exact this
theorem St.start {M bs : List Addr} {vs : List V} {H : Hp} {Ns : List Str} {ts : List Tv} {n : Nat} (S : St K bc [] ts M bs [] (vs.map some) H) (hn : Ns.length - ts.length = n) : St K bc [] (ts ++ List.replicate n .any) M bs [] (L2.start Ns vs) H := by
  have hl := S.env.len
  rw [List.length_map] at hl
  have : L2.start Ns vs = vs.map some ++ List.replicate n none := by
    unfold L2.start
    rw [hl, hn]
  rw [this]
  exact S.with S.env.start
/-- the body does what is promised -/
theorem run_pro {ι : Type} {ts : ι → List Tv} {R : ι → Rv → Prop} {Ns : List Str} {n : Nat} {t : TS} (hn : ∀ i, Ns.length - (ts i).length = n)
    (tr : ∀ i, Tr K bc [] (ts i ++ List.replicate n .any) E t (fun b _ _ => b = bc ∧ R i (.tv (.d .none))) (fun b r => b = bc ∧ R i r) (fun _ => False)) {vs : List V} {H : Hp} {Q : VK} (h : Pro K bc ts R vs H Q E) :
    t { nx := fun _ H' => Q .non H', rt := Q } (L2.start Ns vs) H := by
  obtain ⟨i, M, bs, S, k⟩ := h
  refine tr i M bs [] _ H (S.start (hn i)) { nx := fun _ H' => Q .non H', rt := Q } (fun b c g l s H' n' S' k' f' => ?_) (fun b r v H' hr o cb k' hv => ?_) fun _ _ _ hx => hx.elim
  · obtain ⟨rfl, hr⟩ := n'
    refine k _ _ H' hr S'.old (S'.base.ex (hid_more fun a m => List.mem_append_right _ m) fun _ _ _ e => e) k' .non
  · obtain ⟨rfl, hr⟩ := hr
    exact k r v H' hr o cb k' hv
theorem run_proX {ι : Type} {ts : ι → List Tv} {R : ι → Rv → Prop} {X : ι → Xv → Prop} {Ns : List Str} {n : Nat} {t : TS} (hn : ∀ i, Ns.length - (ts i).length = n)
    (tr : ∀ i, Tr K bc [] (ts i ++ List.replicate n .any) E t (fun b _ _ => b = bc ∧ R i (.tv (.d .none))) (fun b r => b = bc ∧ R i r) (X i)) {vs : List V} {H : Hp} {Q : VK} (h : ProX K bc ts R X vs H Q E) :
    t { nx := fun _ H' => Q .non H', rt := Q } (L2.start Ns vs) H := by
  obtain ⟨i, M, bs, S, k, kx⟩ := h
  refine tr i M bs [] _ H (S.start (hn i)) { nx := fun _ H' => Q .non H', rt := Q } (fun b c g l s H' n' S' k' f' => ?_) (fun b r v H' hr o cb k' hv => ?_) fun x d H' hx k' n' e => kx x d H' hx k' n' e
  · obtain ⟨rfl, hr⟩ := n'
    refine k _ _ H' hr S'.old (S'.base.ex (hid_more fun a m => List.mem_append_right _ m) fun _ _ _ e => e) k' .non
  · obtain ⟨rfl, hr⟩ := hr
    exact k r v H' hr o cb k' hv

/-! ### arguments for a callee -/
theorem hold_in {bs ls M : List Addr} {H : Hp} {v : V} : ∀ {t : Tv}, Pur t → holds K bs ls (hid (ls ++ (bs ++ M)) H) v t → holds K [] [] (hid ([] ++ ([] ++ (ls ++ (bs ++ M)))) H) v t
  | .d x, _, h => h
  | .sem s, _, h => h
  | .any, p, _ => p.elim
  | .cel _, p, _ => p.elim
  | .bas _, p, _ => p.elim
theorem env_in {bs ls M : List Addr} {H : Hp} : ∀ {vs : List V} {ts : List Tv}, (∀ t, t ∈ ts → Pur t) → HoldsAll K bs ls (hid (ls ++ (bs ++ M)) H) vs ts → Env K [] [] (hid ([] ++ ([] ++ (ls ++ (bs ++ M)))) H) (vs.map some) ts
  | [], [], _, _ => trivial
  | v :: vs, t :: ts, p, h => ⟨slot_of (hold_in (p t List.mem_cons_self) h.1), env_in (fun u m => p u (List.mem_cons_of_mem _ m)) h.2⟩
  | [], _ :: _, _, h => h.elim
  | _ :: _, [], _, h => h.elim
theorem St.callee0 {M bs ls : List Addr} {σ : L2.St} {H : Hp} {vs : List V} {ts : List Tv} (S : St K bc cs Γ M bs ls σ H) (p : ∀ t, t ∈ ts → Pur t) (h : HoldsAll K bs ls (hid (ls ++ (bs ++ M)) H) vs ts) : St K [] [] ts (ls ++ (bs ++ M)) [] [] (vs.map some) H :=
  ⟨List.nodup_nil, fun a m => absurd m (by simp), S.alive, trivial, trivial, env_in p h⟩
theorem hold_out {bs ls M : List Addr} {H : Hp} {v : V} : ∀ {t : Tv}, Pur t → holds K [] [] (hid ([] ++ (ls ++ (bs ++ M))) H) v t → holds K bs ls (hid (ls ++ (bs ++ M)) H) v t
  | .d x, _, h => h
  | .sem s, _, h => h
  | .any, p, _ => p.elim
  | .cel _, p, _ => p.elim
  | .bas _, p, _ => p.elim
theorem Kp.ex0 {H H' : Hp} (k : Kp [] [] H H') : Ex H H' := fun a o e => k.k a o (by simp) (by simp) e
/-- what the caller has of an answer -/
def AnsT (K : PySem.W.Frag) (T : Tv → Prop) : Rv → Prop
  | .tv t => Pur t ∧ T t
  | .fr ds => T (.sem (sLst K ds))
theorem ans_of {M bs ls : List Addr} {σ : L2.St} {H H' : Hp} {v : V} {T : Tv → Prop} (S : St K bc cs Γ M bs ls σ H) : ∀ {r : Rv}, AnsT K T r → holdsR K [] (ls ++ (bs ++ M)) H H' v r → ∃ t, T t ∧ holds K bs ls (hid (ls ++ (bs ++ M)) H') v t
  | .tv t, a, h => ⟨t, a.2, hold_out a.1 h⟩
  | .fr ds, a, ⟨p, vs, e, n, h1, h2⟩ => ⟨_, a, p, vs, e, by rw [hid_of (nin (S.new n))]; exact h1, DqAll.ex (hid_more fun x m => List.mem_cons_of_mem _ m) _ _ h2⟩
/-- f(..), no base cell -/
theorem pn_call {ι : Type} {ts : ι → List Tv} {R : ι → Rv → Prop} {ta : TA} {E : XK} {T : Tv → Prop} (i : ι) (ha : Pa K bc cs Γ ta (· = ts i)) (hp : ∀ t, t ∈ ts i → Pur t) (hr : ∀ r, R i r → AnsT K T r) : Pn K bc cs Γ (tCall (Pro K [] ts R) [] E ta) T := fun M bs ls σ H S Q q =>
  ha M bs ls σ H S _ fun ts' vs H1 e S1 k1 hv => by
    subst e
    rw [List.append_nil]
    refine ⟨i, _, [], S1.callee0 hp hv, fun r v H2 h2 o cb k2 hv2 => ?_⟩
    have ex := k2.ex0
    obtain ⟨t, ht, h3⟩ := ans_of S1 (hr r h2) hv2
    exact q t v H2 ht (S1.ex ex) (k1.trans (Kp.of_ex ex)) h3
/-- .. that answers a new list -/
theorem pf_call {ι : Type} {ts : ι → List Tv} {R : ι → Rv → Prop} {ta : TA} {E : XK} {T : List PyData → Prop} (i : ι) (ha : Pa K bc cs Γ ta (· = ts i)) (hp : ∀ t, t ∈ ts i → Pur t) (hr : ∀ r, R i r → ∃ ds, r = .fr ds ∧ T ds) : Pf K bc cs Γ (tCall (Pro K [] ts R) [] E ta) T := fun M bs ls σ H S Q q =>
  ha M bs ls σ H S _ fun ts' vs H1 e S1 k1 hv => by
    subst e
    rw [List.append_nil]
    refine ⟨i, _, [], S1.callee0 hp hv, fun r v H2 h2 o cb k2 hv2 => ?_⟩
    have ex := k2.ex0
    obtain ⟨ds, rfl, hT⟩ := hr r h2
    obtain ⟨p, ws, rfl, n, h3, h4⟩ := hv2
    have np := S1.new n
    refine q ds ws p H2 hT (k1.free n) ?_ (k1.trans (Kp.of_ex ex)) h3 (DqAll.ex (hid_more fun a m => ?_) _ _ h4)
    · -- p hidden
      have S2 := S1.ex ex
      have g : Ex (hid (ls ++ (bs ++ M)) H1) (hid (ls ++ (bs ++ (p :: M))) H2) := fun b o e => by
        obtain ⟨a1, a2⟩ := hid_at e
        have nb : b ≠ p := fun z => by rw [z, n] at a2; cases a2
        rw [hid_of fun z => a1 (mem4 nb z)]
        exact ex b o a2
      refine ⟨S2.nd, fun a h z => ?_, fun m h => ?_, S1.base.ex g fun a o _ e => ex a o e, S1.cell.ex g fun a o _ e => ex a o e, S1.env.ex g⟩
      · rcases List.mem_cons.mp z with w | w
        · rw [w] at h
          rcases List.mem_append.mp h with y | y
          · exact np.1 y
          · exact np.2.1 y
        · exact S2.dis a h w
      · rcases List.mem_cons.mp h with w | w
        · rw [w, h3]
          exact lv_lst
        · exact S2.old m w
    · simp only [List.mem_append, List.mem_cons, List.nil_append] at m ⊢
      rcases m with m | m | m | m
      · exact .inr (.inl m)
      · exact .inr (.inr (.inl m))
      · exact .inl m
      · exact .inr (.inr (.inr m))
/-! ### the callee works on our only base cell -/
def HPur : Tv → Prop
  | .bas 0 => True
  | t => Pur t
theorem hold_inB {ls M : List Addr} {a : Addr} {H : Hp} {v : V} (e : hid ([] ++ ([a] ++ (ls ++ M))) H = hid (ls ++ ([a] ++ M)) H) : ∀ {t : Tv}, HPur t → holds K [a] ls (hid (ls ++ ([a] ++ M)) H) v t → holds K [a] [] (hid ([] ++ ([a] ++ (ls ++ M))) H) v t
  | .d x, _, h => by rw [e]; exact h
  | .sem s, _, h => by rw [e]; exact h
  | .bas 0, _, h => h
  | .any, p, _ => p.elim
  | .cel _, p, _ => p.elim
  | .bas (_ + 1), p, _ => p.elim
theorem env_inB {ls M : List Addr} {a : Addr} {H : Hp} (e : hid ([] ++ ([a] ++ (ls ++ M))) H = hid (ls ++ ([a] ++ M)) H) : ∀ {vs : List V} {ts : List Tv}, (∀ t, t ∈ ts → HPur t) → HoldsAll K [a] ls (hid (ls ++ ([a] ++ M)) H) vs ts → Env K [a] [] (hid ([] ++ ([a] ++ (ls ++ M))) H) (vs.map some) ts
  | [], [], _, _ => trivial
  | v :: vs, t :: ts, p, h => ⟨slot_of (hold_inB e (p t List.mem_cons_self) h.1), env_inB e (fun u m => p u (List.mem_cons_of_mem _ m)) h.2⟩
  | [], _ :: _, _, h => h.elim
  | _ :: _, [], _, h => h.elim
theorem one_base {c : Cell} {G H : Hp} {bs : List Addr} (h : CellsOk G H bs [c]) : ∃ a, bs = [a] := by
  have := h.len
  match bs, this with
  | [a], _ => exact ⟨a, rfl⟩
theorem memB {ls M : List Addr} {a x : Addr} : x ∈ [] ++ ([a] ++ (ls ++ M)) ↔ x ∈ ls ++ ([a] ++ M) := by
  simp only [List.mem_append, List.mem_singleton, List.not_mem_nil, false_or]
  constructor
  · rintro (h | h | h)
    · exact .inr (.inl h)
    · exact .inl h
    · exact .inr (.inr h)
  · rintro (h | h | h)
    · exact .inr (.inl h)
    · exact .inl h
    · exact .inr (.inr h)
theorem St.calleeB {c : Cell} {M ls : List Addr} {a : Addr} {σ : L2.St} {H : Hp} {vs : List V} {ts : List Tv} (S : St K [c] cs Γ M [a] ls σ H) (p : ∀ t, t ∈ ts → HPur t) (h : HoldsAll K [a] ls (hid (ls ++ ([a] ++ M)) H) vs ts) : St K [c] [] ts (ls ++ M) [a] [] (vs.map some) H := by
  have e : hid ([] ++ ([a] ++ (ls ++ M))) H = hid (ls ++ ([a] ++ M)) H := hid_congr fun x => memB
  refine ⟨by simp, fun x m z => ?_, fun m h => ?_, by rw [e]; exact S.base, trivial, env_inB e p h⟩
  · have m' : x = a := by simpa using m
    subst m'
    rcases List.mem_append.mp z with z | z
    · exact (List.nodup_append.mp S.nd).2.2 x z x (by simp) rfl
    · exact S.dis x (by simp) z
  · refine S.alive m ?_
    rcases List.mem_append.mp h with q | q
    · exact List.mem_append_left _ q
    · exact List.mem_append_right _ (List.mem_append_right _ q)
theorem Kp.wide {bs ls : List Addr} {H H' : Hp} (k : Kp bs [] H H') : Kp bs ls H H' := ⟨fun b o _ h e => k.k b o (by simp) h e, k.d⟩
theorem St.afterB {c : Cell} {M ls : List Addr} {a : Addr} {σ : L2.St} {H H' : Hp} (S : St K [c] cs Γ M [a] ls σ H) (o : ∀ m, m ∈ ls ++ M → Lv (H' m)) {W : List Addr} (cb : CellsOk (hid (W ++ ([a] ++ (ls ++ M))) H') H' [a] [c]) (k : Kp [a] [] H H') : St K [c] cs Γ M [a] ls σ H' := by
  have g : Ex (hid (ls ++ ([a] ++ M)) H) (hid (ls ++ ([a] ++ M)) H') := (k.wide (ls := ls)).ex
  have na : ∀ x, x ∈ ls → x ∉ [a] := fun x hx z => (List.nodup_append.mp S.nd).2.2 x hx x z rfl
  refine ⟨S.nd, S.dis, fun m h => o m (List.mem_append_right _ h), ?_, S.cell.ex g fun x u hx e => k.k x u (by simp) (na x hx) e, S.env.ex g⟩
  exact cb.ex (hid_more fun x m => List.mem_append_right _ (memB.mpr m)) fun _ _ _ e => e
theorem ans_ofB {c : Cell} {M ls : List Addr} {a : Addr} {σ : L2.St} {H H' : Hp} {v : V} {T : Tv → Prop} (S : St K [c] cs Γ M [a] ls σ H) : ∀ {r : Rv}, AnsT K T r → holdsR K [a] (ls ++ M) H H' v r → ∃ t, T t ∧ holds K [a] ls (hid (ls ++ ([a] ++ M)) H') v t
  | .tv (.d x), ⟨_, h⟩, q => ⟨_, h, by
      have e : hid ([a] ++ (ls ++ M)) H' = hid (ls ++ ([a] ++ M)) H' := hid_congr fun x => memB
      rw [← e]
      exact q⟩
  | .tv (.sem s), ⟨_, h⟩, q => ⟨_, h, by
      have e : hid ([a] ++ (ls ++ M)) H' = hid (ls ++ ([a] ++ M)) H' := hid_congr fun x => memB
      rw [← e]
      exact q⟩
  | .tv .any, ⟨p, _⟩, _ => p.elim
  | .tv (.cel _), ⟨p, _⟩, _ => p.elim
  | .tv (.bas _), ⟨p, _⟩, _ => p.elim
  | .fr ds, h, ⟨p, vs, e, n, h1, h2⟩ => ⟨_, h, p, vs, e, by rw [hid_of (nin (S.new n))]; exact h1, DqAll.ex (hid_more fun x m => List.mem_cons_of_mem _ (memB.mpr m)) _ _ h2⟩
/-- f(.., the base cell, ..) -/
theorem pn_callB {c : Cell} {ι : Type} {ts : ι → List Tv} {R : ι → Rv → Prop} {ta : TA} {E : XK} {T : Tv → Prop} (i : ι) (ha : Pa K [c] cs Γ ta (· = ts i)) (hp : ∀ t, t ∈ ts i → HPur t) (hr : ∀ r, R i r → AnsT K T r) : Pn K [c] cs Γ (tCall (Pro K [c] ts R) [] E ta) T := fun M bs ls σ H S Q q =>
  ha M bs ls σ H S _ fun ts' vs H1 e S1 k1 hv => by
    subst e
    rw [List.append_nil]
    obtain ⟨a, rfl⟩ := one_base S1.base
    refine ⟨i, _, [a], S1.calleeB hp hv, fun r v H2 h2 o cb k2 hv2 => ?_⟩
    obtain ⟨t, ht, h3⟩ := ans_ofB S1 (hr r h2) hv2
    exact q t v H2 ht (S1.afterB o cb k2) (k1.trans k2.wide) h3
/-- .. that answers a new list -/
theorem pf_callB {c : Cell} {ι : Type} {ts : ι → List Tv} {R : ι → Rv → Prop} {ta : TA} {E : XK} {T : List PyData → Prop} (i : ι) (ha : Pa K [c] cs Γ ta (· = ts i)) (hp : ∀ t, t ∈ ts i → HPur t) (hr : ∀ r, R i r → ∃ ds, r = .fr ds ∧ T ds) : Pf K [c] cs Γ (tCall (Pro K [c] ts R) [] E ta) T := fun M bs ls σ H S Q q =>
  ha M bs ls σ H S _ fun ts' vs H1 e S1 k1 hv => by
    subst e
    rw [List.append_nil]
    obtain ⟨a, rfl⟩ := one_base S1.base
    refine ⟨i, _, [a], S1.calleeB hp hv, fun r v H2 h2 o cb k2 hv2 => ?_⟩
    obtain ⟨ds, rfl, hT⟩ := hr r h2
    obtain ⟨p, ws, rfl, n, h3, h4⟩ := hv2
    have np := S1.new n
    have kw : Kp [a] ls H1 H2 := k2.wide
    have S2 := S1.afterB o cb k2
    have nd := S1.nd
    have g : Ex (hid (ls ++ ([a] ++ M)) H1) (hid (ls ++ ([a] ++ (p :: M))) H2) := fun b o e => by
      obtain ⟨a1, a2⟩ := hid_at e
      have nb : b ≠ p := fun z => by rw [z, n] at a2; cases a2
      rw [hid_of fun z => a1 (mem4 nb z)]
      exact kw.k b o (fun z => a1 (List.mem_append_left _ z)) (fun z => a1 (List.mem_append_right _ (List.mem_append_left _ z))) a2
    have na : ∀ x, x ∈ ls → x ∉ [a] := fun x hx z => (List.nodup_append.mp S1.nd).2.2 x hx x z rfl
    refine q ds ws p H2 hT (k1.free n) ⟨S2.nd, fun x h z => ?_, fun m h => ?_, ?_, S1.cell.ex g fun x u hx e => k2.k x u (by simp) (na x hx) e, S1.env.ex g⟩ (k1.trans kw) h3 (DqAll.ex (hid_more fun x m => ?_) _ _ h4)
    · rcases List.mem_cons.mp z with w | w
      · rw [w] at h
        rcases List.mem_append.mp h with y | y
        · exact np.1 y
        · exact np.2.1 y
      · exact S2.dis x h w
    · rcases List.mem_cons.mp h with w | w
      · rw [w, h3]
        exact lv_lst
      · exact S2.old m w
    · exact cb.ex (hid_more fun x m => by
        simp only [own, List.mem_append, List.mem_cons, List.not_mem_nil, or_false] at m ⊢
        rcases m with m | m | m | m
        · exact .inr (.inr (.inl m))
        · exact .inr (.inl m)
        · exact .inl m
        · exact .inr (.inr (.inr m))) fun _ _ _ e => e
    · simp only [List.mem_append, List.mem_cons, List.not_mem_nil, or_false] at m ⊢
      rcases m with m | m | m | m
      · exact .inr (.inr (.inl m))
      · exact .inr (.inl m)
      · exact .inl m
      · exact .inr (.inr (.inr m))
end
end Z
set_option Elab.async false
set_option linter.all false
set_option maxRecDepth 100000
set_option maxHeartbeats 1000000
namespace Z
open PySem PySem.Spec PyProof.Rows L2
section
variable {K : PySem.W.Frag} {bc cs : List Cell} {Γ : List Tv} {E : XK} {N : List Cell → List Cell → List Tv → Prop} {R : List Cell → Rv → Prop} {X : Xv → Prop}
/-! ### cells written -/
theorem upd_kp {bs ls : List Addr} {H : Hp} {a : Addr} {o : HO} (m : a ∈ ls ∨ a ∈ bs) : Kp bs ls H (upd H a o) := ⟨fun b u h1 h2 e => by
  rw [upd_ne fun z => by rw [z] at h1 h2; exact m.elim h1 h2]
  exact e, fun b h => by
    by_cases e : b = a
    · rw [e, upd_same]
      exact fun z => by cases z
    · rw [upd_ne e]
      exact h⟩
theorem St.setCell {M bs ls : List Addr} {σ : L2.St} {H : Hp} {k : Nat} {a : Addr} {c : Cell} {o : HO} (S : St K bc cs Γ M bs ls σ H) (e : ls[k]? = some a) (p : c.P (hid (ls ++ (bs ++ M)) H) o) : St K bc (cs.set k c) Γ M bs ls σ (upd H a o) := by
  have ha := List.mem_of_getElem? e
  have hw : a ∈ ls ++ (bs ++ M) := List.mem_append_left _ ha
  have nb : a ∉ bs := fun z => (List.nodup_append.mp S.nd).2.2 a ha a z rfl
  refine ⟨S.nd, S.dis, fun m h => by rw [upd_ne fun z => S.dis a (List.mem_append_left _ ha) (by rw [← z]; exact h)]; exact S.old m h, ?_, ?_, ?_⟩
  · rw [hid_upd hw]
    exact S.base.ex (Ex.refl _) fun x u hx ex => by rw [upd_ne fun z => nb (by rw [← z]; exact hx)]; exact ex
  · rw [hid_upd hw]
    exact CellsOk.set (List.nodup_append.mp S.nd).1 S.cell e (fun x u n ex => by rw [upd_ne n]; exact ex) upd_same p
  · rw [hid_upd hw]
    exact S.env
theorem St.setBase {M bs ls : List Addr} {σ : L2.St} {H : Hp} {k : Nat} {a : Addr} {c : Cell} {o : HO} (S : St K bc cs Γ M bs ls σ H) (e : bs[k]? = some a) (p : c.P (hid (ls ++ (bs ++ M)) H) o) : St K (bc.set k c) cs Γ M bs ls σ (upd H a o) := by
  have ha := List.mem_of_getElem? e
  have hw : a ∈ ls ++ (bs ++ M) := List.mem_append_right _ (List.mem_append_left _ ha)
  have nl : a ∉ ls := fun z => (List.nodup_append.mp S.nd).2.2 a z a ha rfl
  refine ⟨S.nd, S.dis, fun m h => by rw [upd_ne fun z => S.dis a (List.mem_append_right _ ha) (by rw [← z]; exact h)]; exact S.old m h, ?_, ?_, ?_⟩
  · rw [hid_upd hw]
    exact CellsOk.set (List.nodup_append.mp S.nd).2.1 S.base e (fun x u n ex => by rw [upd_ne n]; exact ex) upd_same p
  · rw [hid_upd hw]
    exact S.cell.ex (Ex.refl _) fun x u hx ex => by rw [upd_ne fun z => nl (by rw [← z]; exact hx)]; exact ex
  · rw [hid_upd hw]
    exact S.env
theorem St.cellR {M bs ls : List Addr} {σ : L2.St} {H : Hp} {k : Nat} {v : V} {c : Cell} (S : St K bc cs Γ M bs ls σ H) (hv : holds K bs ls (hid (ls ++ (bs ++ M)) H) v (.cel k)) (f : cs[k]? = some c) : ∃ a o, v = .ref a ∧ ls[k]? = some a ∧ H a = some o ∧ c.P (hid (ls ++ (bs ++ M)) H) o := by
  obtain ⟨a, ea, rfl⟩ := hv
  obtain ⟨o, h1, h2⟩ := S.cell.at ea f
  exact ⟨a, o, rfl, ea, h1, h2⟩
theorem St.baseR {M bs ls : List Addr} {σ : L2.St} {H : Hp} {k : Nat} {v : V} {c : Cell} (S : St K bc cs Γ M bs ls σ H) (hv : holds K bs ls (hid (ls ++ (bs ++ M)) H) v (.bas k)) (f : bc[k]? = some c) : ∃ a o, v = .ref a ∧ bs[k]? = some a ∧ H a = some o ∧ c.P (hid (ls ++ (bs ++ M)) H) o := by
  obtain ⟨a, ea, rfl⟩ := hv
  obtain ⟨o, h1, h2⟩ := S.base.at ea f
  exact ⟨a, o, rfl, ea, h1, h2⟩
/-! ### statements with an expression for its own sake -/
/-- x.append(e) on a cell -/
theorem tr_append {i k : Nat} {ds : List PyData} {te : TE} {T : Tv → Prop} (hi : Γ[i]? = some (.cel k)) (hk : cs[k]? = some (lstC K ds)) (hz : ds.length ≤ 1000) (h : Pn K bc cs Γ te T) (hT : ∀ t, T t → ∃ d, t = .d d ∧ N bc (cs.set k (lstC K (ds ++ [d]))) Γ) :
    Tr K bc cs Γ E (tDrop (tBM K "list" rAppend (tVar i) (tCons te tNil))) N R X := fun M bs ls σ H S D q r x => by
    unfold tDrop tBM
    refine pc (bc := bc) (cs := cs) hi M bs ls σ H S _ fun t v H1 ht S1 k1 hv => ?_
    subst ht
    obtain ⟨a, o, rfl, ea, h1, vs, rfl, h2⟩ := S1.cellR hv hk
    refine ⟨.inl ⟨rfl, vs, SqL.of h1⟩, h M bs ls σ H1 S1 _ fun u w H2 hu S2 k2 hw => ?_⟩
    obtain ⟨d, rfl, n⟩ := hT u hu
    obtain ⟨vs', e2, h3⟩ := S2.cellAt ea hk
    refine ⟨a, vs', w, rfl, rfl, e2, by rw [DqAll.len h3]; exact small1000 hz, ?_⟩
    have h4 := S2.setCell (c := lstC K (ds ++ [d])) (o := .lst (vs' ++ [w])) ea ⟨_, rfl, DqAll.app h3 (DqAll.one hw)⟩
    exact q _ _ _ ls _ _ n h4 ((k1.trans k2).trans (upd_kp (.inl (List.mem_of_getElem? ea)))) Fresh.refl
/-- x[e] = e' on a cell -/
theorem tr_setC {i k : Nat} {ds : List PyData} {ti te : TE} {j : Int} {m : Nat} {T : Tv → Prop} (hi : Γ[i]? = some (.cel k)) (hk : cs[k]? = some (lstC K ds)) (hj : ixN ds.length j = some m) (h : Pn K bc cs Γ te T) (hti : Pn K bc cs Γ ti (· = .d (.int j)))
    (hT : ∀ t, T t → ∃ d, t = .d d ∧ N bc (cs.set k (lstC K (ds.set m d))) Γ) : Tr K bc cs Γ E (tAsg te (gSub (tVar i) ti rSetL)) N R X := fun M bs ls σ H S D q r x =>
  h M bs ls σ H S _ fun u w H1 hu S1 k1 hw => by
    obtain ⟨d, rfl, n⟩ := hT u hu
    refine pc (bc := bc) (cs := cs) hi M bs ls σ H1 S1 _ fun t v H2 ht S2 k2 hv => hti M bs ls σ H2 S2 _ fun t' y H3 ht' S3 k3 hy => ?_
    subst ht ht'
    cases hy
    obtain ⟨a, o, rfl, ea, h1, vs, rfl, h2⟩ := S3.cellR hv hk
    refine ⟨a, vs, j, m, rfl, rfl, h1, by rw [DqAll.len h2]; exact hj, ?_⟩
    have h4 := S3.setCell (c := lstC K (ds.set m d)) (o := .lst (vs.set m w)) ea ⟨_, rfl, DqAll.set m ((hw.ex k2.ex).ex k3.ex) h2⟩
    exact q _ _ _ ls _ _ n h4 (((k1.trans k2).trans k3).trans (upd_kp (.inl (List.mem_of_getElem? ea)))) Fresh.refl
/-- .. on a base cell -/
theorem tr_setB {i k : Nat} {ds : List PyData} {ti te : TE} {j : Int} {m : Nat} {T : Tv → Prop} (hi : Γ[i]? = some (.bas k)) (hk : bc[k]? = some (lstC K ds)) (hj : ixN ds.length j = some m) (h : Pn K bc cs Γ te T) (hti : Pn K bc cs Γ ti (· = .d (.int j)))
    (hT : ∀ t, T t → ∃ d, t = .d d ∧ N (bc.set k (lstC K (ds.set m d))) cs Γ) : Tr K bc cs Γ E (tAsg te (gSub (tVar i) ti rSetL)) N R X := fun M bs ls σ H S D q r x =>
  h M bs ls σ H S _ fun u w H1 hu S1 k1 hw => by
    obtain ⟨d, rfl, n⟩ := hT u hu
    refine pb (bc := bc) (cs := cs) hi M bs ls σ H1 S1 _ fun t v H2 ht S2 k2 hv => hti M bs ls σ H2 S2 _ fun t' y H3 ht' S3 k3 hy => ?_
    subst ht ht'
    cases hy
    obtain ⟨a, o, rfl, ea, h1, vs, rfl, h2⟩ := S3.baseR hv hk
    refine ⟨a, vs, j, m, rfl, rfl, h1, by rw [DqAll.len h2]; exact hj, ?_⟩
    have h4 := S3.setBase (c := lstC K (ds.set m d)) (o := .lst (vs.set m w)) ea ⟨_, rfl, DqAll.set m ((hw.ex k2.ex).ex k3.ex) h2⟩
    exact q _ _ _ ls _ _ n h4 (((k1.trans k2).trans k3).trans (upd_kp (.inr (List.mem_of_getElem? ea)))) Fresh.refl
/-- an item of a base cell that holds a list -/
theorem ro_ixB {ds : List PyData} {k : Nat} {i : Int} {x : PyData} (f : bc[k]? = some (lstC K ds)) (e : atI ds i = some x) : Ro K bc cs Γ (rIxLT K) (.bas k) (.d (.int i)) (· = .d x) := ro_val fun M bs ls σ H a b S hx hy Q q => by
  cases hy
  obtain ⟨c, o, rfl, hc, h1, vs, rfl, h2⟩ := S.baseR hx f
  obtain ⟨v, hv, hd⟩ := atI_dp h2 e
  exact .inl ⟨c, vs, i, v, rfl, rfl, SqL.of h1, hv, q v hd⟩
abbrev rInsert : V → List V → Hp → VK → Prop := fun x vs H Q => ∃ (l : Addr) (xs : List V) (i : Int) (y : V), x = .ref l ∧ vs = [.int i, y] ∧ H l = some (.lst xs) ∧ xs.length < sizeLine ∧ 0 ≤ i ∧ i < 2 ^ 63 ∧
    Q .non (upd H l (.lst (xs.take i.toNat ++ [y] ++ xs.drop i.toNat)))
/-- x.insert(i, e) on a cell; i any in I -/
theorem tr_insert {i k : Nat} {ds : List PyData} {ti te : TE} {I : Nat → Prop} {T : Tv → Prop} (hi : Γ[i]? = some (.cel k)) (hk : cs[k]? = some (lstC K ds)) (hz : ds.length ≤ 1000) (hti : Pn K bc cs Γ ti (fun t => ∃ n : Nat, I n ∧ t = .d (.int n))) (hI : ∀ n, I n → n ≤ 1000)
    (h : Pn K bc cs Γ te T) (hT : ∀ n t, I n → T t → ∃ d, t = .d d ∧ N bc (cs.set k (lstC K (ds.take n ++ [d] ++ ds.drop n))) Γ) :
    Tr K bc cs Γ E (tDrop (tBM K "list" rInsert (tVar i) (tCons ti (tCons te tNil)))) N R X := fun M bs ls σ H S D q r x => by
    unfold tDrop tBM
    refine pc (bc := bc) (cs := cs) hi M bs ls σ H S _ fun t v H1 ht S1 k1 hv => ?_
    subst ht
    obtain ⟨a, o, rfl, ea, h1, vs, rfl, h2⟩ := S1.cellR hv hk
    refine ⟨.inl ⟨rfl, vs, SqL.of h1⟩, hti M bs ls σ H1 S1 _ fun u w H2 hu S2 k2 hw => h M bs ls σ H2 S2 _ fun u' w' H3 hu' S3 k3 hw' => ?_⟩
    obtain ⟨n, hn, rfl⟩ := hu
    cases hw
    obtain ⟨d, rfl, nx⟩ := hT n u' hn hu'
    have hnz := hI n hn
    obtain ⟨vs', e2, h3⟩ := S3.cellAt ea hk
    refine ⟨a, vs', n, w', rfl, rfl, e2, by rw [DqAll.len h3]; exact small1000 hz, by omega, by omega, ?_⟩
    have h4 := S3.setCell (c := lstC K (ds.take n ++ [d] ++ ds.drop n)) (o := .lst (vs'.take n ++ [w'] ++ vs'.drop n)) ea ⟨_, rfl, DqAll.app (DqAll.app (DqAll.take n h3) (DqAll.one hw')) (DqAll.drop n h3)⟩
    rw [Int.toNat_natCast]
    exact q _ _ _ ls _ _ nx h4 (((k1.trans k2).trans k3).trans (upd_kp (.inl (List.mem_of_getElem? ea)))) Fresh.refl
/-- x.pop(i) on a cell, stored -/
theorem tr_popAt {i k j : Nat} {ds : List PyData} {ti : TE} {I : Nat → Prop} (hi : Γ[i]? = some (.cel k)) (hk : cs[k]? = some (lstC K ds)) (hz : ds.length ≤ 1000) (hti : Pn K bc cs Γ ti (fun t => ∃ n : Nat, I n ∧ t = .d (.int n)))
    (hT : ∀ n, I n → ∃ d, ds[n]? = some d ∧ N bc (cs.set k (lstC K (ds.eraseIdx n))) (Γ.set j (.d d))) :
    Tr K bc cs Γ E (tAsg (tBM K "list" rPopAt (tVar i) (tCons ti tNil)) (gName j)) N R X := fun M bs ls σ H S D q r x => by
    unfold tAsg tBM
    refine pc (bc := bc) (cs := cs) hi M bs ls σ H S _ fun t v H1 ht S1 k1 hv => ?_
    subst ht
    obtain ⟨a, o, rfl, ea, h1, vs, rfl, h2⟩ := S1.cellR hv hk
    refine ⟨.inl ⟨rfl, vs, SqL.of h1⟩, hti M bs ls σ H1 S1 _ fun u w H2 hu S2 k2 hw => ?_⟩
    obtain ⟨n, hn, rfl⟩ := hu
    cases hw
    obtain ⟨d, hd, nx⟩ := hT n hn
    obtain ⟨vs', e2, h3⟩ := S2.cellAt ea hk
    obtain ⟨w, ew, hw⟩ := DqAll.get h3 hd
    have hlt : n < ds.length := (List.getElem?_eq_some_iff.mp hd).1
    have hl := DqAll.len h3
    refine ⟨a, vs', n, n, w, rfl, rfl, e2, by omega, by omega, by simp [seqIndex?]; omega, ew, ?_⟩
    have h4 := S2.setCell (c := lstC K (ds.eraseIdx n)) (o := .lst (vs'.eraseIdx n)) ea ⟨_, rfl, DqAll.erase n h3⟩
    refine q _ _ _ ls _ _ nx (h4.with (h4.env.set ?_ j)) ((k1.trans k2).trans (upd_kp (.inl (List.mem_of_getElem? ea)))) Fresh.refl
    rw [hid_upd (List.mem_append_left _ (List.mem_of_getElem? ea))]
    exact hw
/-- x.pop() -/
theorem tr_pop {i k : Nat} {ds : List PyData} (hi : Γ[i]? = some (.cel k)) (hk : cs[k]? = some (lstC K ds)) (hz : ds ≠ []) (n : N bc (cs.set k (lstC K ds.dropLast)) Γ) :
    Tr K bc cs Γ E (tDrop (tBM0 K "list" rPop (tVar i))) N R X := fun M bs ls σ H S D q r x => by
    unfold tDrop tBM0
    refine pc (bc := bc) (cs := cs) hi M bs ls σ H S _ fun t v H1 ht S1 k1 hv => ?_
    subst ht
    obtain ⟨a, o, rfl, ea, h1, vs, rfl, h2⟩ := S1.cellR hv hk
    have hl := DqAll.len h2
    have hp : 0 < vs.length := by
      rw [hl]
      exact List.length_pos_iff.mpr hz
    refine ⟨.inl ⟨rfl, vs, SqL.of h1⟩, a, vs, vs[vs.length - 1], rfl, rfl, h1, List.getElem?_eq_getElem _, ?_⟩
    have e : DqAll K (hid (ls ++ (bs ++ M)) H1) vs.dropLast ds.dropLast := by
      rw [List.dropLast_eq_take, List.dropLast_eq_take, hl]
      exact DqAll.take _ h2
    have h4 := S1.setCell (c := lstC K ds.dropLast) (o := .lst vs.dropLast) ea ⟨_, rfl, e⟩
    exact q _ _ _ ls _ _ n h4 (k1.trans (upd_kp (.inl (List.mem_of_getElem? ea)))) Fresh.refl

/-! ### calls of builtins -/
theorem pn_cb {r : List V → Hp → VK → Prop} {ta : TA} {ts : List Tv} {T : Tv → Prop} (ha : Pa K bc cs Γ ta (· = ts)) (hr : Rc K bc cs Γ r ts T) : Pn K bc cs Γ (tCB r ta) T := fun M bs ls σ H S Q q =>
  ha M bs ls σ H S _ fun ts' vs H1 e S1 k1 hv => by
    subst e
    exact hr M bs ls σ H1 vs S1 hv Q fun s v H2 hs S2 k2 h2 => q s v H2 hs S2 (k1.trans k2) h2
theorem HoldsAll.one {bs ls : List Addr} {H : Hp} {vs : List V} {t : Tv} (h : HoldsAll K bs ls H vs [t]) : ∃ v, vs = [v] ∧ holds K bs ls H v t := by
  match vs, h with
  | [v], h => exact ⟨v, rfl, h.1⟩
theorem HoldsAll.two {bs ls : List Addr} {H : Hp} {vs : List V} {t u : Tv} (h : HoldsAll K bs ls H vs [t, u]) : ∃ v w, vs = [v, w] ∧ holds K bs ls H v t ∧ holds K bs ls H w u := by
  match vs, h with
  | [v, w], h => exact ⟨v, w, rfl, h.1, h.2.1⟩
theorem rc_val {r : List V → Hp → VK → Prop} {ts : List Tv} {s : Tv} (h : ∀ M bs ls σ H vs, St K bc cs Γ M bs ls σ H → HoldsAll K bs ls (hid (ls ++ (bs ++ M)) H) vs ts → ∀ Q : VK, (∀ v, holds K bs ls (hid (ls ++ (bs ++ M)) H) v s → Q v H) → r vs H Q) :
    Rc K bc cs Γ r ts (· = s) := fun M bs ls σ H vs S hv Q q => h M bs ls σ H vs S hv Q fun v h2 => q s v H rfl S (Kp.refl H) h2
/-- what stands for a list -/
inductive IsLst (K : PySem.W.Frag) (bc cs : List Cell) : Tv → List PyData → Prop
  | d (ds : List PyData) : IsLst K bc cs (.d (.list ds)) ds
  | s (ds : List PyData) : IsLst K bc cs (.sem (sLst K ds)) ds
  | c (k : Nat) (ds : List PyData) : cs[k]? = some (lstC K ds) → IsLst K bc cs (.cel k) ds
  | b (k : Nat) (ds : List PyData) : bc[k]? = some (lstC K ds) → IsLst K bc cs (.bas k) ds
theorem St.lst {M bs ls : List Addr} {σ : L2.St} {H : Hp} {t : Tv} {ds : List PyData} {v : V} (S : St K bc cs Γ M bs ls σ H) (i : IsLst K bc cs t ds) (h : holds K bs ls (hid (ls ++ (bs ++ M)) H) v t) : ∃ a vs, v = .ref a ∧ H a = some (.lst vs) ∧ DqAll K (hid (ls ++ (bs ++ M)) H) vs ds := by
  cases i with
  | d => cases h with
    | lst hs ha => exact ⟨_, _, rfl, hid_ex _ _ hs, ha⟩
  | s =>
    obtain ⟨a, vs, rfl, h1, h2⟩ := h
    exact ⟨a, vs, rfl, hid_ex _ _ h1, h2⟩
  | c k _ e =>
    obtain ⟨a, o, rfl, ea, h1, vs, rfl, h2⟩ := S.cellR h e
    exact ⟨a, vs, rfl, h1, h2⟩
  | b k _ e =>
    obtain ⟨a, o, rfl, ea, h1, vs, rfl, h2⟩ := S.baseR h e
    exact ⟨a, vs, rfl, h1, h2⟩
theorem St.lstD {M bs ls : List Addr} {σ : L2.St} {H : Hp} {t : Tv} {ds : List PyData} {v : V} (S : St K bc cs Γ M bs ls σ H) (i : IsLst K bc cs t ds) (h : holds K bs ls (hid (ls ++ (bs ++ M)) H) v t) : Dq K H v (.list ds) := by
  obtain ⟨a, vs, rfl, h1, h2⟩ := S.lst i h
  exact .lst h1 (DqAll.ex hid_ex _ _ h2)
theorem rc_len {t : Tv} {ds : List PyData} (i : IsLst K bc cs t ds) : Rc K bc cs Γ (rLen K) [t] (· = .d (.int ds.length)) := rc_val fun M bs ls σ H vs S hv Q q => by
  obtain ⟨v, rfl, h⟩ := hv.one
  obtain ⟨a, ws, rfl, h1, h2⟩ := S.lst i h
  exact ⟨_, ds.length, rfl, .inl ⟨ws, SqL.of h1, (DqAll.len h2).symm⟩, q _ (.int _)⟩
theorem rc_lenT {ds : List PyData} : Rc K bc cs Γ (rLen K) [.d (.tuple ds)] (· = .d (.int ds.length)) := rc_val fun M bs ls σ H vs S hv Q q => by
  obtain ⟨v, rfl, h⟩ := hv.one
  cases h with
  | tup h1 h2 => exact ⟨_, ds.length, rfl, .inr ⟨_, SqT.of (hid_ex _ _ h1), (DqAll.len h2).symm⟩, q _ (.int _)⟩
/-- x in l, l a list of data -/
theorem ro_in {x : PyData} {t : Tv} {ds : List PyData} (i : IsLst K bc cs t ds) (sx : SeqAt.shaped x = true) (sd : SeqAt.shaped (.list ds) = true) : Ro K bc cs Γ (rInD K) (.d x) t (· = .d (.bool (ds.any fun z => PyData.eqv z x))) := ro_val fun M bs ls σ H a b S hx hy Q q =>
  ⟨x, ds, Dq.dp _ _ (Dq.ex hid_ex _ _ hx), Dq.dp _ _ (S.lstD i hy), sx, sd, q _ (.bl _)⟩
theorem ro_notIn {x : PyData} {t : Tv} {ds : List PyData} (i : IsLst K bc cs t ds) (sx : SeqAt.shaped x = true) (sd : SeqAt.shaped (.list ds) = true) : Ro K bc cs Γ (rNotInD K) (.d x) t (· = .d (.bool (!ds.any fun z => PyData.eqv z x))) := ro_val fun M bs ls σ H a b S hx hy Q q =>
  ⟨x, ds, Dq.dp _ _ (Dq.ex hid_ex _ _ hx), Dq.dp _ _ (S.lstD i hy), sx, sd, q _ (.bl _)⟩
/-- == with a list that is a cell -/
theorem ro_eqL {t u : Tv} {ds es : List PyData} (i : IsLst K bc cs t ds) (j : IsLst K bc cs u es) (sx : SeqAt.shaped (.list ds) = true) (sy : SeqAt.shaped (.list es) = true) : Ro K bc cs Γ (rEqD K) t u (· = .d (.bool (PyData.eqv (.list ds) (.list es)))) := ro_val fun M bs ls σ H a b S hx hy Q q =>
  ⟨_, _, Dq.dp _ _ (S.lstD i hx), Dq.dp _ _ (S.lstD j hy), sx, sy, q _ (.bl _)⟩
theorem ro_neL {t u : Tv} {ds es : List PyData} (i : IsLst K bc cs t ds) (j : IsLst K bc cs u es) (sx : SeqAt.shaped (.list ds) = true) (sy : SeqAt.shaped (.list es) = true) : Ro K bc cs Γ (rNeD K) t u (· = .d (.bool (!PyData.eqv (.list ds) (.list es)))) := ro_val fun M bs ls σ H a b S hx hy Q q =>
  ⟨_, _, Dq.dp _ _ (S.lstD i hx), Dq.dp _ _ (S.lstD j hy), sx, sy, q _ (.bl _)⟩
/-- an item of what stands for a list -/
theorem ro_ix {t : Tv} {ds : List PyData} {i : Int} {x : PyData} (l : IsLst K bc cs t ds) (e : atI ds i = some x) : Ro K bc cs Γ (rIxLT K) t (.d (.int i)) (· = .d x) := ro_val fun M bs ls σ H a b S hx hy Q q => by
  cases hy
  obtain ⟨c, vs, rfl, h1, h2⟩ := S.lst l hx
  obtain ⟨v, hv, hd⟩ := atI_dp h2 e
  exact .inl ⟨c, vs, i, v, rfl, rfl, SqL.of h1, hv, q v hd⟩
/-! types -/
def tyD : PyData → String
  | .none => "NoneType"
  | .bool _ => "bool"
  | .int _ => "int"
  | .str _ => "str"
  | .list _ => "list"
  | .tuple _ => "tuple"
  | .dict _ => "dict"
theorem tyX {H : Hp} : ∀ {d : PyData} {v : V}, Dq K H v d → TyX K H v (.type (tyD d))
  | .none, _, h => by cases h; exact .base .non
  | .bool b, _, h => by cases h; exact .base (.bl b)
  | .int i, _, h => by cases h; exact .base (.int i)
  | .str x, _, h => by cases h; exact .base (.str x)
  | .list ds, _, h => by
    cases h with
    | lst hs ha => exact .base (.lst hs)
  | .tuple ds, _, h => by
    cases h with
    | tup hs ha => exact .base (.tup hs)
  | .dict _, _, h => by cases h
/-- isinstance(x, a built-in class) -/
theorem rc_isi {d : PyData} {T : String} {b : Bool} (hb : kitB (tyD d) T = some b) : Rc K bc cs Γ (rIsi K) [.d d, .sem (isV (.ty T))] (· = .d (.bool b)) := rc_val fun M bs ls σ H vs S hv Q q => by
  obtain ⟨v, w, rfl, h1, h2⟩ := hv.two
  have e : w = .ty T := h2
  subst e
  exact ⟨v, .ty T, _, _, b, rfl, .ty T, tyX (Dq.ex hid_ex _ _ h1), kit_ty hb, q _ (.bl b)⟩
def clsS (cs : List V) : Sm := ⟨fun H v => ∃ a, v = .ref a ∧ H a = some (.tup cs), fun e ⟨a, h1, h2⟩ => ⟨a, h1, e _ _ h2⟩⟩
/-- a display of classes -/
theorem pn_cls {ta : TA} {vs : List V} (h : Pa K bc cs Γ ta (· = vs.map fun v => .sem (isV v))) (hz : vs.length ≤ 1000) : Pn K bc cs Γ (tTup ta) (· = .sem (clsS vs)) := fun M bs ls σ H S Q q =>
  h M bs ls σ H S _ fun ts us H1 hts S1 k1 hvs => by
    subst hts
    have key : ∀ {vs us : List V}, HoldsAll K bs ls (hid (ls ++ (bs ++ M)) H1) us (vs.map fun v => .sem (isV v)) → us = vs := by
      intro vs
      induction vs with
      | nil => intro us h; cases us with
        | nil => rfl
        | cons _ _ => exact h.elim
      | cons v vs ih =>
        intro us h
        cases us with
        | nil => exact h.elim
        | cons u us =>
          have e1 : u = v := h.1
          rw [e1, ih h.2]
    have e := key hvs
    subst e
    refine ⟨Nat.le_of_lt (small1000 hz), fun p n => ?_⟩
    have ex := ex_upd (o := .tup us) n
    exact q _ _ _ rfl (S1.ex ex) (k1.trans (Kp.of_ex ex)) ⟨p, rfl, by rw [hid_of (nin (S1.new n)), upd_same]⟩
theorem rc_isi2 {d : PyData} {T U : String} {a b : Bool} (ha : kitB (tyD d) T = some a) (hb : a = false → kitB (tyD d) U = some b) (hab : a = true → b = true) : Rc K bc cs Γ (rIsiT K) [.d d, .sem (clsS [.ty T, .ty U])] (· = .d (.bool b)) := rc_val fun M bs ls σ H vs S hv Q q => by
  obtain ⟨v, w, rfl, h1, p, rfl, hp⟩ := hv.two
  refine ⟨v, p, _, _, [.type T, .type U], b, rfl, hid_ex _ _ hp, .cons (.ty T) (.cons (.ty U) .nil), tyX (Dq.ex hid_ex _ _ h1), ?_, q _ (.bl b)⟩
  exact kitAny_cons (kit_ty ha) (fun e => kitAny_cons (b := b) (kit_ty (hb e)) (fun e2 => by rw [e2]; exact kitAny_nil) fun e2 => e2) hab
end
end Z
set_option Elab.async false
set_option linter.all false
set_option maxRecDepth 100000
set_option maxHeartbeats 1000000
namespace Z
open PySem PySem.Spec PyProof.Rows L2
section
variable {K : PySem.W.Frag} {bc cs : List Cell} {Γ : List Tv} {E : XK} {N : List Cell → List Cell → List Tv → Prop} {R : List Cell → Rv → Prop} {X : Xv → Prop}
/-! ### objects -/
def Flds (K : PySem.W.Frag) (H : Hp) : List (Str × V) → List (Str × Tv) → Prop
  | [], [] => True
  | (f, v) :: fs, (g, t) :: ns => f = g ∧ Pur t ∧ holds K [] [] H v t ∧ Flds K H fs ns
  | _, _ => False
theorem Flds.ex {H H' : Hp} (e : Ex H H') : ∀ {fs : List (Str × V)} {ns : List (Str × Tv)}, Flds K H fs ns → Flds K H' fs ns
  | [], [], h => h
  | _ :: _, _ :: _, h => ⟨h.1, h.2.1, h.2.2.1.ex e, Flds.ex e h.2.2.2⟩
  | [], _ :: _, h => h.elim
  | _ :: _, [], h => h.elim
theorem Flds.look {H : Hp} {f : Str} : ∀ {fs : List (Str × V)} {ns : List (Str × Tv)} {t : Tv}, Flds K H fs ns → ns.lookup f = some t → ∃ v, fs.lookup f = some v ∧ Pur t ∧ holds K [] [] H v t
  | [], [], _, _, e => by cases e
  | (g, v) :: fs, (g', t') :: ns, t, h, e => by
    obtain ⟨e1, hp, hv, hr⟩ := h
    subst e1
    rw [List.lookup_cons] at e ⊢
    by_cases q : f == g
    · simp only [q] at e ⊢
      cases e
      exact ⟨v, rfl, hp, hv⟩
    · simp only [Bool.not_eq_true] at q
      simp only [q] at e ⊢
      exact Flds.look hr e
  | [], _ :: _, _, h, _ => h.elim
  | _ :: _, [], _, h, _ => h.elim
theorem Flds.none {H : Hp} {f : Str} : ∀ {fs : List (Str × V)} {ns : List (Str × Tv)}, Flds K H fs ns → ns.lookup f = none → fs.lookup f = none
  | [], [], _, _ => rfl
  | (g, v) :: fs, (g', t') :: ns, h, e => by
    obtain ⟨e1, hp, hv, hr⟩ := h
    subst e1
    rw [List.lookup_cons] at e ⊢
    by_cases q : f == g
    · simp only [q] at e
      cases e
    · simp only [Bool.not_eq_true] at q
      simp only [q] at e ⊢
      exact Flds.none hr e
  | [], _ :: _, h, _ => h.elim
  | _ :: _, [], h, _ => h.elim
theorem Flds.len {H : Hp} : ∀ {fs : List (Str × V)} {ns : List (Str × Tv)}, Flds K H fs ns → fs.length = ns.length
  | [], [], _ => rfl
  | _ :: _, _ :: _, h => congrArg (· + 1) (Flds.len h.2.2.2)
  | [], _ :: _, h => h.elim
  | _ :: _, [], h => h.elim
theorem Flds.put {H : Hp} {f : Str} {v : V} {t : Tv} (p : Pur t) (hv : holds K [] [] H v t) : ∀ {fs : List (Str × V)} {ns : List (Str × Tv)}, Flds K H fs ns → ns.lookup f = Option.none → Flds K H (putF f v fs) (ns ++ [(f, t)])
  | [], [], _, _ => ⟨rfl, p, hv, trivial⟩
  | (g, w) :: fs, (g', t') :: ns, h, e => by
    obtain ⟨e1, hp, hw, hr⟩ := h
    subst e1
    rw [List.lookup_cons] at e
    by_cases q : f == g
    · simp only [q] at e
      cases e
    · simp only [Bool.not_eq_true] at q
      simp only [q] at e
      have ne : ¬ g = f := fun z => by
        rw [z] at q
        simp at q
      show Flds K H (if g = f then (g, v) :: fs else (g, w) :: putF f v fs) ((g, t') :: (ns ++ [(f, t)]))
      rw [if_neg ne]
      exact ⟨rfl, hp, hw, Flds.put p hv hr e⟩
  | [], _ :: _, h, _ => h.elim
  | _ :: _, [], h, _ => h.elim
def insC (K : PySem.W.Frag) (C : Addr) (ns : List (Str × Tv)) : Cell := ⟨fun H o => ∃ dx fs, o = .ins C dx fs ∧ Flds K H fs ns, fun e ⟨dx, fs, h1, h2⟩ => ⟨dx, fs, h1, Flds.ex e h2⟩, fun ⟨dx, fs, h1, _⟩ => by rw [h1]; exact lv_ins⟩
def insS (K : PySem.W.Frag) (C : Addr) (ns : List (Str × Tv)) : Sm := ⟨fun H v => ∃ a o, v = .ref a ∧ H a = some o ∧ (insC K C ns).P H o, fun e ⟨a, o, h1, h2, h3⟩ => ⟨a, o, h1, e _ _ h2, (insC K C ns).up e h3⟩⟩
theorem pur_up {bs ls : List Addr} {H : Hp} {v : V} : ∀ {t : Tv}, Pur t → holds K [] [] H v t → holds K bs ls H v t
  | .d x, _, h => h
  | .sem s, _, h => h
  | .any, p, _ => p.elim
  | .cel _, p, _ => p.elim
  | .bas _, p, _ => p.elim
theorem pur_dn {bs ls : List Addr} {H : Hp} {v : V} : ∀ {t : Tv}, Pur t → holds K bs ls H v t → holds K [] [] H v t
  | .d x, _, h => h
  | .sem s, _, h => h
  | .any, p, _ => p.elim
  | .cel _, p, _ => p.elim
  | .bas _, p, _ => p.elim
/-- e.f -/
theorem pn_fld {te : TE} {C : Addr} {ns : List (Str × Tv)} {f : Str} {t : Tv} (h : Pn K bc cs Γ te (· = .sem (insS K C ns))) (hl : ns.lookup f = some t) (c : Cls K C) (n : NoAttr K C f) : Pn K bc cs Γ (tFld K te f) (· = t) := fun M bs ls σ H S Q q =>
  h M bs ls σ H S _ fun u v H1 hu S1 k1 hv => by
    subst hu
    obtain ⟨a, o, rfl, ha, dx, fs, rfl, hf⟩ := hv
    obtain ⟨w, h1, hp, h2⟩ := hf.look hl
    exact ⟨a, C, dx, fs, w, rfl, hid_ex _ _ ha, c, n, h1, q t w H1 rfl S1 k1 (pur_up hp h2)⟩
/-- self.f, self under way -/
theorem pn_fldB {i k : Nat} {C : Addr} {ns : List (Str × Tv)} {f : Str} {t : Tv} (hi : Γ[i]? = some (.bas k)) (hk : bc[k]? = some (insC K C ns)) (hl : ns.lookup f = some t) (c : Cls K C) (n : NoAttr K C f) : Pn K bc cs Γ (tFld K (tVar i) f) (· = t) := fun M bs ls σ H S Q q =>
  pb (bc := bc) (cs := cs) hi M bs ls σ H S _ fun u v H1 hu S1 k1 hv => by
    subst hu
    obtain ⟨a, o, rfl, ea, ha, dx, fs, rfl, hf⟩ := S1.baseR hv hk
    obtain ⟨w, h1, hp, h2⟩ := hf.look hl
    exact ⟨a, C, dx, fs, w, rfl, ha, c, n, h1, q t w H1 rfl S1 k1 (pur_up hp h2)⟩
/-- self.f = e -/
theorem tr_fld {i k : Nat} {C : Addr} {ns : List (Str × Tv)} {f : Str} {t : Tv} {te : TE} (hi : Γ[i]? = some (.bas k)) (hk : bc[k]? = some (insC K C ns)) (h : Pn K bc cs Γ te (· = t)) (p : Pur t) (c : Cls K C) (n : NoAttr K C f) (hl : ns.lookup f = none) (hz : ns.length < 1000)
    (nx : N (bc.set k (insC K C (ns ++ [(f, t)]))) cs Γ) : Tr K bc cs Γ E (sFld K (tVar i) te f) N R X := fun M bs ls σ H S D q r x =>
  h M bs ls σ H S _ fun u w H1 hu S1 k1 hw => by
    subst hu
    refine pb (bc := bc) (cs := cs) hi M bs ls σ H1 S1 _ fun u v H2 hu S2 k2 hv => ?_
    subst hu
    obtain ⟨a, o, rfl, ea, ha, dx, fs, rfl, hf⟩ := S2.baseR hv hk
    refine ⟨a, C, dx, fs, rfl, ha, c, n, by rw [hf.len]; exact hz, ?_⟩
    have h4 := S2.setBase (c := insC K C (ns ++ [(f, u)])) (o := .ins C dx (putF f w fs)) ea ⟨dx, _, rfl, hf.put p (pur_dn p (hw.ex k2.ex)) hl⟩
    exact q _ _ _ ls _ _ nx h4 ((k1.trans k2).trans (upd_kp (.inr (List.mem_of_getElem? ea)))) Fresh.refl
/-! ### a constructor -/
def ProC {ι : Type} (K : PySem.W.Frag) (C : Addr) (ts : ι → List Tv) (ns : ι → List (Str × Tv)) : Sp := fun vs H Q _ => ∃ i M p, St K [insC K C []] [] (.bas 0 :: ts i) M [p] [] (vs.map some) H ∧
  ∀ H', (∀ m, m ∈ M → Lv (H' m)) → CellsOk (hid ([p] ++ M) H') H' [p] [insC K C (ns i)] → Kp [p] [] H H' → Q .non H'
theorem ProC.len {ι : Type} {C : Addr} {ts : ι → List Tv} {ns : ι → List (Str × Tv)} {n : Nat} (hn : ∀ i, (ts i).length + 1 = n) {vs : List V} {H : Hp} {Q : VK} {E : XK} (h : ProC K C ts ns vs H Q E) : vs.length = n := by
  obtain ⟨i, M, p, S, _⟩ := h
  have := S.env.len
  rw [List.length_map, List.length_cons, hn i] at this
  exact this
theorem run_proC {ι : Type} {C : Addr} {ts : ι → List Tv} {ns : ι → List (Str × Tv)} {Ns : List Str} {n : Nat} {t : TS} (hn : ∀ i, Ns.length - ((ts i).length + 1) = n)
    (tr : ∀ i, Tr K [insC K C []] [] ((.bas 0 :: ts i) ++ List.replicate n .any) E t (fun b _ _ => b = [insC K C (ns i)]) (fun b r => False) (fun _ => False)) {vs : List V} {H : Hp} {Q : VK} (h : ProC K C ts ns vs H Q E) :
    t { nx := fun _ H' => Q .non H', rt := Q } (L2.start Ns vs) H := by
  obtain ⟨i, M, p, S, k⟩ := h
  refine tr i M [p] [] _ H (S.start (hn i)) { nx := fun _ H' => Q .non H', rt := Q } (fun b c g l s H' n' S' k' f' => ?_) (fun b r v H' hr o cb k' hv => hr.elim) fun _ _ _ hx => hx.elim
  have e : b = [insC K C (ns i)] := n'
  subst e
  exact k H' S'.old (S'.base.ex (hid_more fun a m => List.mem_append_right _ m) fun _ _ _ e => e) k'
theorem hold_inP {W : List Addr} {bs ls M : List Addr} {H H' : Hp} {v : V} (e : Ex (hid (ls ++ (bs ++ M)) H) H') : ∀ {t : Tv}, Pur t → holds K bs ls (hid (ls ++ (bs ++ M)) H) v t → ∀ {b l : List Addr}, holds K b l H' v t
  | .d x, _, h, _, _ => Dq.ex e _ _ h
  | .sem s, _, h, _, _ => s.up e h
  | .any, p, _, _, _ => p.elim
  | .cel _, p, _, _, _ => p.elim
  | .bas _, p, _, _, _ => p.elim
theorem env_inP {bs ls M : List Addr} {H H' : Hp} (e : Ex (hid (ls ++ (bs ++ M)) H) H') {b l : List Addr} : ∀ {vs : List V} {ts : List Tv}, (∀ t, t ∈ ts → Pur t) → HoldsAll K bs ls (hid (ls ++ (bs ++ M)) H) vs ts → Env K b l H' (vs.map some) ts
  | [], [], _, _ => trivial
  | v :: vs, t :: ts, p, h => ⟨slot_of (hold_inP (W := []) e (p t List.mem_cons_self) h.1), env_inP e (fun u m => p u (List.mem_cons_of_mem _ m)) h.2⟩
  | [], _ :: _, _, h => h.elim
  | _ :: _, [], _, h => h.elim
/-- C(..) -/
theorem pn_make {ι : Type} {C : Addr} {ts : ι → List Tv} {ns : ι → List (Str × Tv)} {ta : TA} {E : XK} (i : ι) (ha : Pa K bc cs Γ ta (· = ts i)) (hp : ∀ t, t ∈ ts i → Pur t) : Pn K bc cs Γ (tMake C (ProC K C ts ns) [] E ta) (· = .sem (insS K C (ns i))) := fun M bs ls σ H S Q q =>
  ha M bs ls σ H S _ fun ts' vs H1 e S1 k1 hv => by
    subst e
    rw [List.append_nil]
    intro x dx nx ndx ne
    have e1 : Ex H1 (upd (upd H1 dx (.own x)) x (.ins C dx [])) := Ex.trans (ex_upd ndx) (ex_upd (by rw [upd_ne (Ne.symm ne)]; exact nx))
    have np := S1.new nx
    have g : Ex (hid (ls ++ (bs ++ M)) H1) (hid ([] ++ ([x] ++ (ls ++ (bs ++ M)))) (upd (upd H1 dx (.own x)) x (.ins C dx []))) := fun b o e => by
      obtain ⟨a1, a2⟩ := hid_at e
      have nb : b ≠ x := fun z => by rw [z, nx] at a2; cases a2
      rw [hid_of fun z => by
        rcases List.mem_append.mp (show b ∈ [x] ++ (ls ++ (bs ++ M)) from z) with w | w
        · exact nb (List.mem_singleton.mp w)
        · exact a1 w]
      exact e1 b o a2
    have S1' : St K [insC K C []] [] (.bas 0 :: ts i) (ls ++ (bs ++ M)) [x] [] ((V.ref x :: vs).map some) (upd (upd H1 dx (.own x)) x (.ins C dx [])) := by
      refine ⟨by simp, fun a m z => ?_, fun m h => ?_, ⟨⟨_, upd_same, dx, [], rfl, trivial⟩, trivial⟩, trivial, ⟨⟨_, rfl, x, rfl, rfl⟩, env_inP g hp hv⟩⟩
      · have m' : a = x := by simpa using m
        rw [m'] at z
        exact nin np z
      · exact (S1.alive m h).ex e1
    refine ⟨i, _, x, S1', fun H2 o cb k2 => ⟨rfl, ?_⟩⟩
    have ex : Ex H1 H2 := fun b o e => k2.k b o (by simp) (fun z => by
      have z' : b = x := by simpa using z
      rw [z', nx] at e
      cases e) (e1 b o e)
    refine q _ _ H2 rfl (S1.ex ex) (k1.trans (Kp.of_ex ex)) ?_
    obtain ⟨o', h1, h2⟩ := cb.1
    exact ⟨x, o', rfl, by rw [hid_of (nin np)]; exact h1, (insC K C (ns i)).up (hid_more fun a m => List.mem_append_right _ m) h2⟩
/-! ### a method -/
theorem pn_meth {ι : Type} {C : Addr} {m : Str} {ns : List (Str × Tv)} {ts : ι → List Tv} {R : ι → Rv → Prop} {te : TE} {ta : TA} {tl : List Tv} {E : XK} {T : Tv → Prop} (i : ι) (h : Pn K bc cs Γ te (· = .sem (insS K C ns))) (hm : ns.lookup m = none) (ha : Pa K bc cs Γ ta (· = tl))
    (e : ts i = .sem (insS K C ns) :: tl) (hp : ∀ t, t ∈ tl → Pur t) (hr : ∀ r, R i r → AnsT K T r) : Pn K bc cs Γ (tMeth C m (Pro K [] ts R) [] E te ta) T := fun M bs ls σ H S Q q =>
  h M bs ls σ H S _ fun u v H1 hu S1 k1 hv => by
    subst hu
    have hv0 := hv
    obtain ⟨a, o, rfl, ha0, dx, fs, rfl, hf⟩ := hv
    refine ⟨a, dx, fs, rfl, hid_ex _ _ ha0, hf.none hm, ha M bs ls σ H1 S1 _ fun ts' vs H2 e2 S2 k2 hvs => ?_⟩
    subst e2
    rw [List.append_nil]
    have hv2 : holds K bs ls (hid (ls ++ (bs ++ M)) H2) (.ref a) (.sem (insS K C ns)) := holds.ex (t := .sem (insS K C ns)) k2.ex hv0
    have pa : ∀ t, t ∈ ts i → Pur t := fun t ht => by
      rw [e] at ht
      rcases List.mem_cons.mp ht with z | z
      · rw [z]; trivial
      · exact hp t z
    refine ⟨i, _, [], S2.callee0 (ts := ts i) pa (by rw [e]; exact ⟨hv2, hvs⟩), fun r v H3 h3 o cb k3 hv3 => ?_⟩
    have ex := k3.ex0
    obtain ⟨t, ht, h4⟩ := ans_of S2 (hr r h3) hv3
    exact q t v H3 ht (S2.ex ex) ((k1.trans k2).trans (Kp.of_ex ex)) h4
/-! ### what may raise -/
def PnX (K : PySem.W.Frag) (bc cs : List Cell) (Γ : List Tv) (E : XK) (te : TE) (T : Tv → Prop) (X : Xv → Prop) : Prop := ∀ M bs ls σ H, St K bc cs Γ M bs ls σ H → ∀ Q : VK,
  (∀ t v H', T t → St K bc cs Γ M bs ls σ H' → Kp bs ls H H' → holds K bs ls (hid (ls ++ (bs ++ M)) H') v t → Q v H') →
  (∀ x d H', X x → Kp bs ls H H' → H d = none → H' d = some (.xd x.fs) → E (.ref x.C) (some d) H') → te σ H Q
theorem pnx_call {ι : Type} {ts : ι → List Tv} {R : ι → Rv → Prop} {Xi : ι → Xv → Prop} {ta : TA} {T : Tv → Prop} (i : ι) (ha : Pa K bc cs Γ ta (· = ts i)) (hp : ∀ t, t ∈ ts i → Pur t) (hr : ∀ r, R i r → AnsT K T r) (hx : ∀ x, Xi i x → X x) : PnX K bc cs Γ E (tCall (ProX K [] ts R Xi) [] E ta) T X := fun M bs ls σ H S Q q qx =>
  ha M bs ls σ H S _ fun ts' vs H1 e S1 k1 hv => by
    subst e
    rw [List.append_nil]
    refine ⟨i, _, [], S1.callee0 hp hv, fun r v H2 h2 o cb k2 hv2 => ?_, fun x d H2 h2 k2 n2 e2 => ?_⟩
    · have ex := k2.ex0
      obtain ⟨t, ht, h3⟩ := ans_of S1 (hr r h2) hv2
      exact q t v H2 ht (S1.ex ex) (k1.trans (Kp.of_ex ex)) h3
    · exact qx x d H2 (hx x h2) (k1.trans (Kp.of_ex k2.ex0)) (k1.free n2) e2
theorem pnx_meth {ι : Type} {C : Addr} {m : Str} {ns : List (Str × Tv)} {ts : ι → List Tv} {R : ι → Rv → Prop} {Xi : ι → Xv → Prop} {te : TE} {ta : TA} {tl : List Tv} {T : Tv → Prop} (i : ι) (h : Pn K bc cs Γ te (· = .sem (insS K C ns))) (hm : ns.lookup m = none) (ha : Pa K bc cs Γ ta (· = tl))
    (e : ts i = .sem (insS K C ns) :: tl) (hp : ∀ t, t ∈ tl → Pur t) (hr : ∀ r, R i r → AnsT K T r) (hx : ∀ x, Xi i x → X x) : PnX K bc cs Γ E (tMeth C m (ProX K [] ts R Xi) [] E te ta) T X := fun M bs ls σ H S Q q qx =>
  h M bs ls σ H S _ fun u v H1 hu S1 k1 hv => by
    subst hu
    have hv0 := hv
    obtain ⟨a, o, rfl, ha0, dx, fs, rfl, hf⟩ := hv
    refine ⟨a, dx, fs, rfl, hid_ex _ _ ha0, hf.none hm, ha M bs ls σ H1 S1 _ fun ts' vs H2 e2 S2 k2 hvs => ?_⟩
    subst e2
    rw [List.append_nil]
    have hv2 : holds K bs ls (hid (ls ++ (bs ++ M)) H2) (.ref a) (.sem (insS K C ns)) := holds.ex (t := .sem (insS K C ns)) k2.ex hv0
    have pa : ∀ t, t ∈ ts i → Pur t := fun t ht => by
      rw [e] at ht
      rcases List.mem_cons.mp ht with z | z
      · rw [z]; trivial
      · exact hp t z
    refine ⟨i, _, [], S2.callee0 (ts := ts i) pa (by rw [e]; exact ⟨hv2, hvs⟩), fun r v H3 h3 o cb k3 hv3 => ?_, fun x d H3 h3 k3 n3 e3 => ?_⟩
    · have ex := k3.ex0
      obtain ⟨t, ht, h4⟩ := ans_of S2 (hr r h3) hv3
      exact q t v H3 ht (S2.ex ex) ((k1.trans k2).trans (Kp.of_ex ex)) h4
    · exact qx x d H3 (hx x h3) ((k1.trans k2).trans (Kp.of_ex k3.ex0)) (k1.free (k2.free n3)) e3
theorem PnX.of {te : TE} {T : Tv → Prop} (h : PnX K bc cs Γ E te T (fun _ => False)) : Pn K bc cs Γ te T := fun M bs ls σ H S Q q => h M bs ls σ H S Q q fun _ _ _ hx => hx.elim
theorem tr_asgX {te : TE} {T : Tv → Prop} {i : Nat} (h : PnX K bc cs Γ E te T X) (k : ∀ t, T t → N bc cs (Γ.set i t)) : Tr K bc cs Γ E (tAsg te (gName i)) N R X := fun M bs ls σ H S D q r x =>
  h M bs ls σ H S _ (fun t v H1 ht S1 k1 hv => q bc cs _ ls _ H1 (k t ht) (S1.set hv i) k1 Fresh.refl) fun y d H' hx k' n e => x y d H' hx k' n e
theorem tr_dropX {te : TE} {T : Tv → Prop} (h : PnX K bc cs Γ E te T X) (k : ∀ t, T t → N bc cs Γ) : Tr K bc cs Γ E (tDrop te) N R X := fun M bs ls σ H S D q r x =>
  h M bs ls σ H S _ (fun t v H1 ht S1 k1 hv => q bc cs _ ls _ H1 (k t ht) S1 k1 Fresh.refl) fun y d H' hx k' n e => x y d H' hx k' n e
theorem tr_drop {te : TE} {T : Tv → Prop} (h : Pn K bc cs Γ te T) (k : ∀ t, T t → N bc cs Γ) : Tr K bc cs Γ E (tDrop te) N R X := fun M bs ls σ H S D q r x =>
  h M bs ls σ H S _ (fun t v H1 ht S1 k1 hv => q bc cs _ ls _ H1 (k t ht) S1 k1 Fresh.refl)
/-! ### tuple(..), list(..) -/
theorem pn_tupL {te : TE} {t : Tv} {ds : List PyData} (h : Pn K bc cs Γ te (· = t)) (i : IsLst K bc cs t ds) : Pn K bc cs Γ (tThen te (kTup K)) (· = .d (.tuple ds)) := fun M bs ls σ H S Q q =>
  h M bs ls σ H S _ fun u v H1 hu S1 k1 hv => by
    subst hu
    obtain ⟨a, vs, rfl, h1, h2⟩ := S1.lst i hv
    refine .inl ⟨a, vs, rfl, SqL.of h1, fun p n => ?_⟩
    have ex := ex_upd (o := .tup vs) n
    exact q _ _ _ rfl (S1.ex ex) (k1.trans (Kp.of_ex ex)) (.tup (by rw [hid_of (nin (S1.new n)), upd_same]) (DqAll.ex (Kp.of_ex ex).ex _ _ h2))
theorem pn_tupLG {te : TE} {T : List PyData → Prop} (h : Pn K bc cs Γ te (fun t => ∃ ds, T ds ∧ t = .sem (sLst K ds))) : Pn K bc cs Γ (tThen te (kTup K)) (fun t => ∃ ds, T ds ∧ t = .d (.tuple ds)) := fun M bs ls σ H S Q q =>
  h M bs ls σ H S _ fun u v H1 hu S1 k1 hv => by
    obtain ⟨ds, hT, rfl⟩ := hu
    obtain ⟨a, vs, rfl, h1, h2⟩ := S1.lst (.s ds) hv
    refine .inl ⟨a, vs, rfl, SqL.of h1, fun p n => ?_⟩
    have ex := ex_upd (o := .tup vs) n
    exact q _ _ _ ⟨ds, hT, rfl⟩ (S1.ex ex) (k1.trans (Kp.of_ex ex)) (.tup (by rw [hid_of (nin (S1.new n)), upd_same]) (DqAll.ex (Kp.of_ex ex).ex _ _ h2))
theorem pn_tupT {te : TE} {ds : List PyData} (h : Pn K bc cs Γ te (· = .d (.tuple ds))) : Pn K bc cs Γ (tThen te (kTup K)) (· = .d (.tuple ds)) := fun M bs ls σ H S Q q =>
  h M bs ls σ H S _ fun u v H1 hu S1 k1 hv => by
    subst hu
    have hv0 := hv
    cases hv with
    | tup hs ha => exact .inr ⟨_, _, rfl, SqT.of (hid_ex _ _ hs), q _ _ H1 rfl S1 k1 hv0⟩
abbrev rListOf (K : PySem.W.Frag) : List V → Hp → VK → Prop := fun xs H Q => ∃ p ys, xs = [V.ref p] ∧ (SqL K H p ys ∨ SqT K H p ys) ∧ ∀ l, H l = none → Q (.ref l) (upd H l (.lst ys))
theorem pf_listL {te : TE} {t : Tv} {ds : List PyData} (h : Pn K bc cs Γ te (· = t)) (i : IsLst K bc cs t ds) : Pf K bc cs Γ (tCB (rListOf K) (tCons te tNil)) (· = ds) := fun M bs ls σ H S Q q =>
  h M bs ls σ H S _ fun u v H1 hu S1 k1 hv => by
    subst hu
    obtain ⟨a, vs, rfl, h1, h2⟩ := S1.lst i hv
    refine ⟨a, vs, rfl, .inl (SqL.of h1), fun p n => ?_⟩
    have ex := ex_upd (o := .lst vs) n
    exact q ds vs p _ rfl (k1.free n) (S1.hide n) (k1.trans (Kp.of_ex ex)) upd_same (by rw [hid_new n]; exact h2)
theorem pf_listT {te : TE} {ds : List PyData} (h : Pn K bc cs Γ te (· = .d (.tuple ds))) : Pf K bc cs Γ (tCB (rListOf K) (tCons te tNil)) (· = ds) := fun M bs ls σ H S Q q =>
  h M bs ls σ H S _ fun u v H1 hu S1 k1 hv => by
    subst hu
    cases hv with
    | tup h1 h2 =>
      refine ⟨_, _, rfl, .inr (SqT.of (hid_ex _ _ h1)), fun p n => ?_⟩
      have ex := ex_upd (H := H1) (o := .lst ‹List V›) n
      exact q ds _ p _ rfl (k1.free n) (S1.hide n) (k1.trans (Kp.of_ex ex)) upd_same (by rw [hid_new n]; exact h2)
theorem pf_listRg {te : TE} {n : Nat} (h : Pn K bc cs Γ te (· = .d (.int n))) (hn : n ≤ 1000) : Pf K bc cs Γ (tLstRg (tRg1 te)) (· = rgD 0 n) := fun M bs ls σ H S Q q =>
  h M bs ls σ H S _ fun u v H1 hu S1 k1 hv => by
    subst hu
    cases hv
    refine ⟨n, rfl, ⟨by omega, by omega, by omega, by omega, by omega⟩, fun p np => ?_⟩
    have ex := ex_upd (H := H1) (o := .lst (rgV 0 n)) np
    refine q _ _ p _ rfl (k1.free np) (S1.hide np) (k1.trans (Kp.of_ex ex)) upd_same ?_
    have key : ∀ (l : List Nat) (G : Hp), DqAll K G (l.map fun i => V.int (0 + (i : Nat))) (l.map fun i => .int ((0 + i : Nat) : Int)) := by
      intro l G
      induction l with
      | nil => exact .nil
      | cons i l ih =>
        refine .cons ?_ ih
        have e : (0 : Int) + (i : Int) = ((0 + i : Nat) : Int) := by omega
        show Dq K G (V.int ((0 : Int) + (i : Int))) (.int ((0 + i : Nat) : Int))
        rw [e]
        exact .int _
    have e : ((n : Int) - 0).toNat = n := by omega
    unfold rgV rgD
    rw [e]
    exact key _ _
/-- a + b of lists: a new one -/
theorem pf_cat {ta tb : TE} {t u : Tv} {ds es : List PyData} (ha : Pn K bc cs Γ ta (· = t)) (hb : Pn K bc cs Γ tb (· = u)) (it : IsLst K bc cs t ds) (iu : IsLst K bc cs u es) (hz : ds.length + es.length ≤ 1000) : Pf K bc cs Γ (tOp rCat ta tb) (· = ds ++ es) := fun M bs ls σ H S Q q =>
  ha M bs ls σ H S _ fun t x H1 ht S1 k1 hx => hb M bs ls σ H1 S1 _ fun u y H2 hu S2 k2 hy => by
    subst ht hu
    obtain ⟨a, vs, rfl, h1, h2⟩ := S2.lst it (hx.ex k2.ex)
    obtain ⟨b, ws, rfl, h3, h4⟩ := S2.lst iu hy
    have l1 := DqAll.len h2
    have l2 := DqAll.len h4
    refine ⟨a, b, vs, ws, rfl, rfl, h1, h3, by rw [l1, l2]; exact Nat.le_of_lt (small1000 hz), fun p n => ?_⟩
    have ex := ex_upd (H := H2) (o := .lst (vs ++ ws)) n
    exact q _ _ p _ rfl (k1.free (k2.free n)) (S2.hide n) ((k1.trans k2).trans (Kp.of_ex ex)) upd_same (by rw [hid_new n]; exact DqAll.app h2 h4)
/-! ### small calls -/
abbrev rInt1 : List V → Hp → VK → Prop := fun xs H Q => (∃ i, xs = [V.int i] ∧ Q (.int i) H) ∨ ∃ k, xs = [V.bl k] ∧ Q (.int (if k then 1 else 0)) H
abbrev rAbs : List V → Hp → VK → Prop := fun xs H Q => ∃ i, xs = [V.int i] ∧ Q (.int (if i < 0 then -i else i)) H
abbrev rMax2 : List V → Hp → VK → Prop := fun xs H Q => ∃ i j, xs = [V.int i, V.int j] ∧ Q (.int (if j > i then j else i)) H
theorem rc_int1 {i : Int} : Rc K bc cs Γ rInt1 [.d (.int i)] (· = .d (.int i)) := rc_val fun M bs ls σ H vs S hv Q q => by
  obtain ⟨v, rfl, h⟩ := hv.one
  cases h
  exact .inl ⟨i, rfl, q _ (.int _)⟩
theorem rc_intB {b : Bool} : Rc K bc cs Γ rInt1 [.d (.bool b)] (· = .d (.int (if b then 1 else 0))) := rc_val fun M bs ls σ H vs S hv Q q => by
  obtain ⟨v, rfl, h⟩ := hv.one
  cases h
  exact .inr ⟨b, rfl, q _ (.int _)⟩
theorem rc_abs {i : Int} : Rc K bc cs Γ rAbs [.d (.int i)] (· = .d (.int (if i < 0 then -i else i))) := rc_val fun M bs ls σ H vs S hv Q q => by
  obtain ⟨v, rfl, h⟩ := hv.one
  cases h
  exact ⟨i, rfl, q _ (.int _)⟩
theorem rc_max2 {i j : Int} : Rc K bc cs Γ rMax2 [.d (.int i), .d (.int j)] (· = .d (.int (if j > i then j else i))) := rc_val fun M bs ls σ H vs S hv Q q => by
  obtain ⟨v, w, rfl, h, h'⟩ := hv.two
  cases h
  cases h'
  exact ⟨i, j, rfl, q _ (.int _)⟩
end
end Z
set_option Elab.async false
set_option linter.all false
set_option maxRecDepth 100000
set_option maxHeartbeats 1000000
namespace Z
open PySem PySem.Spec PyProof.Rows L2
def top (i : Nat) : Stmt := PySem.Challenge.pw_joinedguests_k15_whole_renamed_ties.main.body.getD i (.Pass ⟨0, 0, 0, 0⟩)
abbrev s_is_whole : Stmt := top 13
abbrev s_is_label : Stmt := top 14
abbrev s_row_word : Stmt := top 18
abbrev s_check : Stmt := top 19
abbrev s_is_three : Stmt := top 22
abbrev s_six : Stmt := top 23
abbrev s_readings_of : Stmt := top 24
abbrev s_check_threes : Stmt := top 26
abbrev s_is_couple : Stmt := top 27
abbrev s_names_of : Stmt := top 28
abbrev s_check_alike : Stmt := top 31
abbrev s_all_names : Stmt := top 32
abbrev s_keeps_backs : Stmt := top 33
abbrev s_same_up_to_names : Stmt := top 34
abbrev s_least_book : Stmt := top 35
abbrev s_law_mix : Stmt := top 37
abbrev s_law_hand : Stmt := top 38
abbrev s_law_draw : Stmt := top 39
abbrev s_law_pick : Stmt := top 40
abbrev s_law_backs : Stmt := top 41
abbrev s_law_readings : Stmt := top 42
abbrev s_law_classes : Stmt := top 43
abbrev s_law_let : Stmt := top 44
abbrev s_law_barred : Stmt := top 45
abbrev s_law_any_world : Stmt := top 46
abbrev s_law_bars_handed : Stmt := top 47
abbrev s_law_labels : Stmt := top 48
abbrev s_law_fits : Stmt := top 49
abbrev s_law_rows : Stmt := top 50
abbrev s_law_company : Stmt := top 51
abbrev s_law_book : Stmt := top 52
abbrev s_law_plain : Stmt := top 53
abbrev s_law_shape : Stmt := top 54
abbrev s_law_drawn_table : Stmt := top 55
abbrev s_law_same_barred : Stmt := top 56
abbrev s_law_orders : Stmt := top 57
abbrev s_law_namings : Stmt := top 58
abbrev s_law_renamed_world : Stmt := top 59
abbrev s_law_shuffled : Stmt := top 60
abbrev s_law_refusal : Stmt := top 61
abbrev s_law_due : Stmt := top 62
abbrev s_law_refusals_right : Stmt := top 63
abbrev s_law_due_between : Stmt := top 64
abbrev s_law : Stmt := top 65
abbrev s_Ties_init : Stmt := inClass (top 15) 0
abbrev s_Ties_eq : Stmt := inClass (top 15) 3
abbrev s_Company_init : Stmt := inClass (top 20) 0
abbrev s_Company_tie_at : Stmt := inClass (top 20) 2
abbrev s_Company_len : Stmt := inClass (top 20) 10
abbrev s_Book_init : Stmt := inClass (top 29) 0
abbrev s_Book_check_backs : Stmt := inClass (top 29) 3
abbrev s_Book_company_fault : Stmt := inClass (top 29) 7
abbrev s_Book_lets : Stmt := inClass (top 29) 8
abbrev s_Book_renamed_ties : Stmt := inClass (top 29) 18
abbrev s_Book_eq : Stmt := inClass (top 29) 21
/-! ### facts -/
def d_is_whole : He.DefD := ⟨("is_whole", none), "is_whole", "is_whole", defArgs s_is_whole, defBody s_is_whole, defScope s_is_whole, [], []⟩
def d_is_label : He.DefD := ⟨("is_label", none), "is_label", "is_label", defArgs s_is_label, defBody s_is_label, defScope s_is_label, [], []⟩
def d_row_word : He.DefD := ⟨("_row_word", none), "_row_word", "_row_word", defArgs s_row_word, defBody s_row_word, defScope s_row_word, [], []⟩
def d_check : He.DefD := ⟨("_check", none), "_check", "_check", defArgs s_check, defBody s_check, defScope s_check, [], []⟩
def d_is_three : He.DefD := ⟨("is_three", none), "is_three", "is_three", defArgs s_is_three, defBody s_is_three, defScope s_is_three, [], []⟩
def d_six : He.DefD := ⟨("_six", none), "_six", "_six", defArgs s_six, defBody s_six, defScope s_six, [], []⟩
def d_readings_of : He.DefD := ⟨("readings_of", none), "readings_of", "readings_of", defArgs s_readings_of, defBody s_readings_of, defScope s_readings_of, [], []⟩
def d_check_threes : He.DefD := ⟨("_check_threes", none), "_check_threes", "_check_threes", defArgs s_check_threes, defBody s_check_threes, defScope s_check_threes, [], []⟩
def d_is_couple : He.DefD := ⟨("_is_couple", none), "_is_couple", "_is_couple", defArgs s_is_couple, defBody s_is_couple, defScope s_is_couple, [], []⟩
def d_names_of : He.DefD := ⟨("_names_of", none), "_names_of", "_names_of", defArgs s_names_of, defBody s_names_of, defScope s_names_of, [], []⟩
def d_check_alike : He.DefD := ⟨("_check_alike", none), "_check_alike", "_check_alike", defArgs s_check_alike, defBody s_check_alike, defScope s_check_alike, [], []⟩
def d_all_names : He.DefD := ⟨("_all_names", none), "_all_names", "_all_names", defArgs s_all_names, defBody s_all_names, defScope s_all_names, [], []⟩
def d_keeps_backs : He.DefD := ⟨("_keeps_backs", none), "_keeps_backs", "_keeps_backs", defArgs s_keeps_backs, defBody s_keeps_backs, defScope s_keeps_backs, [], []⟩
def d_same_up_to_names : He.DefD := ⟨("same_up_to_names", none), "same_up_to_names", "same_up_to_names", defArgs s_same_up_to_names, defBody s_same_up_to_names, defScope s_same_up_to_names, [], []⟩
def d_least_book : He.DefD := ⟨("least_book", none), "least_book", "least_book", defArgs s_least_book, defBody s_least_book, defScope s_least_book, [], []⟩
def d_law_mix : He.DefD := ⟨("_law_mix", none), "_law_mix", "_law_mix", defArgs s_law_mix, defBody s_law_mix, defScope s_law_mix, [], []⟩
def d_law_hand : He.DefD := ⟨("_law_hand", none), "_law_hand", "_law_hand", defArgs s_law_hand, defBody s_law_hand, defScope s_law_hand, [], []⟩
def d_law_draw : He.DefD := ⟨("_law_draw", none), "_law_draw", "_law_draw", defArgs s_law_draw, defBody s_law_draw, defScope s_law_draw, [], []⟩
def d_law_pick : He.DefD := ⟨("_law_pick", none), "_law_pick", "_law_pick", defArgs s_law_pick, defBody s_law_pick, defScope s_law_pick, [], []⟩
def d_law_backs : He.DefD := ⟨("_law_backs", none), "_law_backs", "_law_backs", defArgs s_law_backs, defBody s_law_backs, defScope s_law_backs, [], []⟩
def d_law_readings : He.DefD := ⟨("_law_readings", none), "_law_readings", "_law_readings", defArgs s_law_readings, defBody s_law_readings, defScope s_law_readings, [], []⟩
def d_law_classes : He.DefD := ⟨("_law_classes", none), "_law_classes", "_law_classes", defArgs s_law_classes, defBody s_law_classes, defScope s_law_classes, [], []⟩
def d_law_let : He.DefD := ⟨("_law_let", none), "_law_let", "_law_let", defArgs s_law_let, defBody s_law_let, defScope s_law_let, [], []⟩
def d_law_barred : He.DefD := ⟨("_law_barred", none), "_law_barred", "_law_barred", defArgs s_law_barred, defBody s_law_barred, defScope s_law_barred, [], []⟩
def d_law_any_world : He.DefD := ⟨("_law_any_world", none), "_law_any_world", "_law_any_world", defArgs s_law_any_world, defBody s_law_any_world, defScope s_law_any_world, [], []⟩
def d_law_bars_handed : He.DefD := ⟨("_law_bars_handed", none), "_law_bars_handed", "_law_bars_handed", defArgs s_law_bars_handed, defBody s_law_bars_handed, defScope s_law_bars_handed, [], []⟩
def d_law_labels : He.DefD := ⟨("_law_labels", none), "_law_labels", "_law_labels", defArgs s_law_labels, defBody s_law_labels, defScope s_law_labels, [], []⟩
def d_law_fits : He.DefD := ⟨("_law_fits", none), "_law_fits", "_law_fits", defArgs s_law_fits, defBody s_law_fits, defScope s_law_fits, [], []⟩
def d_law_rows : He.DefD := ⟨("_law_rows", none), "_law_rows", "_law_rows", defArgs s_law_rows, defBody s_law_rows, defScope s_law_rows, [], []⟩
def d_law_company : He.DefD := ⟨("_law_company", none), "_law_company", "_law_company", defArgs s_law_company, defBody s_law_company, defScope s_law_company, [], []⟩
def d_law_book : He.DefD := ⟨("_law_book", none), "_law_book", "_law_book", defArgs s_law_book, defBody s_law_book, defScope s_law_book, [], []⟩
def d_law_plain : He.DefD := ⟨("_law_plain", none), "_law_plain", "_law_plain", defArgs s_law_plain, defBody s_law_plain, defScope s_law_plain, [], []⟩
def d_law_shape : He.DefD := ⟨("_law_shape", none), "_law_shape", "_law_shape", defArgs s_law_shape, defBody s_law_shape, defScope s_law_shape, [], []⟩
def d_law_drawn_table : He.DefD := ⟨("_law_drawn_table", none), "_law_drawn_table", "_law_drawn_table", defArgs s_law_drawn_table, defBody s_law_drawn_table, defScope s_law_drawn_table, [], []⟩
def d_law_same_barred : He.DefD := ⟨("_law_same_barred", none), "_law_same_barred", "_law_same_barred", defArgs s_law_same_barred, defBody s_law_same_barred, defScope s_law_same_barred, [], []⟩
def d_law_orders : He.DefD := ⟨("_law_orders", none), "_law_orders", "_law_orders", defArgs s_law_orders, defBody s_law_orders, defScope s_law_orders, [], []⟩
def d_law_namings : He.DefD := ⟨("_law_namings", none), "_law_namings", "_law_namings", defArgs s_law_namings, defBody s_law_namings, defScope s_law_namings, [], []⟩
def d_law_renamed_world : He.DefD := ⟨("_law_renamed_world", none), "_law_renamed_world", "_law_renamed_world", defArgs s_law_renamed_world, defBody s_law_renamed_world, defScope s_law_renamed_world, [], []⟩
def d_law_shuffled : He.DefD := ⟨("_law_shuffled", none), "_law_shuffled", "_law_shuffled", defArgs s_law_shuffled, defBody s_law_shuffled, defScope s_law_shuffled, [], []⟩
def d_law_refusal : He.DefD := ⟨("_law_refusal", none), "_law_refusal", "_law_refusal", defArgs s_law_refusal, defBody s_law_refusal, defScope s_law_refusal, [], []⟩
def d_law_due : He.DefD := ⟨("_law_due", none), "_law_due", "_law_due", defArgs s_law_due, defBody s_law_due, defScope s_law_due, [], []⟩
def d_law_refusals_right : He.DefD := ⟨("_law_refusals_right", none), "_law_refusals_right", "_law_refusals_right", defArgs s_law_refusals_right, defBody s_law_refusals_right, defScope s_law_refusals_right, [], []⟩
def d_law_due_between : He.DefD := ⟨("_law_due_between", none), "_law_due_between", "_law_due_between", defArgs s_law_due_between, defBody s_law_due_between, defScope s_law_due_between, [], []⟩
def d_law : He.DefD := ⟨("law", none), "law", "law", defArgs s_law, defBody s_law, defScope s_law, [], []⟩
def d_Ties_init : He.DefD := ⟨("Ties", some "__init__"), "__init__", "Ties.__init__", defArgs s_Ties_init, defBody s_Ties_init, defScope s_Ties_init, [], []⟩
def d_Ties_eq : He.DefD := ⟨("Ties", some "__eq__"), "__eq__", "Ties.__eq__", defArgs s_Ties_eq, defBody s_Ties_eq, defScope s_Ties_eq, [], []⟩
def d_Company_init : He.DefD := ⟨("Company", some "__init__"), "__init__", "Company.__init__", defArgs s_Company_init, defBody s_Company_init, defScope s_Company_init, [.adr (He.dflAt ("Company", some "__init__") 0), .adr (He.dflAt ("Company", some "__init__") 1)], []⟩
def d_Company_tie_at : He.DefD := ⟨("Company", some "tie_at"), "tie_at", "Company.tie_at", defArgs s_Company_tie_at, defBody s_Company_tie_at, defScope s_Company_tie_at, [], []⟩
def d_Company_len : He.DefD := ⟨("Company", some "__len__"), "__len__", "Company.__len__", defArgs s_Company_len, defBody s_Company_len, defScope s_Company_len, [], []⟩
def d_Book_init : He.DefD := ⟨("Book", some "__init__"), "__init__", "Book.__init__", defArgs s_Book_init, defBody s_Book_init, defScope s_Book_init, [.adr (He.dflAt ("Book", some "__init__") 0)], []⟩
def d_Book_check_backs : He.DefD := ⟨("Book", some "_check_backs"), "_check_backs", "Book._check_backs", defArgs s_Book_check_backs, defBody s_Book_check_backs, defScope s_Book_check_backs, [], []⟩
def d_Book_company_fault : He.DefD := ⟨("Book", some "company_fault"), "company_fault", "Book.company_fault", defArgs s_Book_company_fault, defBody s_Book_company_fault, defScope s_Book_company_fault, [], []⟩
def d_Book_lets : He.DefD := ⟨("Book", some "lets"), "lets", "Book.lets", defArgs s_Book_lets, defBody s_Book_lets, defScope s_Book_lets, [], []⟩
def d_Book_renamed_ties : He.DefD := ⟨("Book", some "renamed_ties"), "renamed_ties", "Book.renamed_ties", defArgs s_Book_renamed_ties, defBody s_Book_renamed_ties, defScope s_Book_renamed_ties, [], []⟩
def d_Book_eq : He.DefD := ⟨("Book", some "__eq__"), "__eq__", "Book.__eq__", defArgs s_Book_eq, defBody s_Book_eq, defScope s_Book_eq, [], []⟩
def fn1 : List He.DefD := [d_is_whole, d_is_label, d_row_word, d_check, d_is_three, d_six, d_readings_of, d_check_threes, d_is_couple, d_names_of, d_check_alike, d_all_names, d_keeps_backs, d_same_up_to_names, d_least_book, d_law_mix, d_law_hand, d_law_draw, d_law_pick, d_law_backs, d_law_readings, d_law_classes, d_law_let, d_law_barred, d_law_any_world]
def fn2 : List He.DefD := [d_law_bars_handed, d_law_labels, d_law_fits, d_law_rows, d_law_company, d_law_book, d_law_plain, d_law_shape, d_law_drawn_table, d_law_same_barred, d_law_orders, d_law_namings, d_law_renamed_world, d_law_shuffled, d_law_refusal, d_law_due, d_law_refusals_right, d_law_due_between, d_law]
def fn3 : List He.DefD := [d_Ties_init, d_Ties_eq, d_Company_init, d_Company_tie_at, d_Company_len, d_Book_init, d_Book_check_backs, d_Book_company_fault, d_Book_lets, d_Book_renamed_ties, d_Book_eq]
def fn : List He.DefD := fn1 ++ (fn2 ++ fn3)
def fa1 : List He.Fa := [.glo "is_whole", .glo "is_label", .glo "_row_word", .glo "_check", .glo "is_three", .glo "_six", .glo "readings_of", .glo "_check_threes", .glo "_is_couple", .glo "_names_of", .glo "_check_alike", .glo "_all_names", .glo "_keeps_backs", .glo "same_up_to_names", .glo "least_book", .glo "_law_mix", .glo "_law_hand", .glo "_law_draw", .glo "_law_pick", .glo "_law_backs", .glo "_law_readings", .glo "_law_classes", .glo "_law_let", .glo "_law_barred", .glo "_law_any_world"]
def fa2 : List He.Fa := [.glo "_law_bars_handed", .glo "_law_labels", .glo "_law_fits", .glo "_law_rows", .glo "_law_company", .glo "_law_book", .glo "_law_plain", .glo "_law_shape", .glo "_law_drawn_table", .glo "_law_same_barred", .glo "_law_orders", .glo "_law_namings", .glo "_law_renamed_world", .glo "_law_shuffled", .glo "_law_refusal", .glo "_law_due", .glo "_law_refusals_right", .glo "_law_due_between", .glo "law"]
def fa3 : List He.Fa := [.free "len", .free "range", .free "isinstance", .free "tuple", .free "list", .free "int", .free "abs", .free "sorted", .free "set", .free "min", .free "max", .free "enumerate", .free "zip", .free "bool", .free "super", .free "str", .int "MOST_TIES" 4, .int "MOST_LABEL" 1000000000, .int "MOST_GUESTS" 60]
def fa4 : List He.Fa := [.glo "Ties", .cls "Ties", .mkr "Ties", .noat "Ties" "backs", .noat "Ties" "many", .meth "Ties" "__eq__", .glo "Company", .cls "Company", .mkr "Company", .noat "Company" "ties", .noat "Company" "guests", .noat "Company" "rows", .meth "Company" "tie_at", .meth "Company" "__len__", .glo "Book", .cls "Book", .mkr "Book", .noat "Book" "ties", .noat "Book" "barred", .noat "Book" "least_barred", .noat "Book" "grid", .meth "Book" "_check_backs", .meth "Book" "company_fault", .meth "Book" "lets", .meth "Book" "renamed_ties", .meth "Book" "__eq__", .glo "GuestError", .glo "BadBook", .glo "OtherTies"]
def fa : List He.Fa := fa1 ++ (fa2 ++ (fa3 ++ fa4))
def loose0 : List Str := ["_wall", "GuestError", "BadTies", "NoTie", "BadCompany", "BadRenaming", "NoThree", "BadBook", "OtherTies", "is_whole", "is_label", "Ties", "_row_word", "_check", "Company", "is_three", "_six", "readings_of"]
def loose1 : List Str := ["_check_threes", "_is_couple", "_names_of", "Book", "_check_alike", "_all_names", "_keeps_backs", "same_up_to_names", "least_book", "_law_mix", "_law_hand", "_law_draw", "_law_pick", "_law_backs", "_law_readings", "_law_classes", "_law_let", "_law_barred"]
def loose2 : List Str := ["_law_any_world", "_law_bars_handed", "_law_labels", "_law_fits", "_law_rows", "_law_company", "_law_book", "_law_plain", "_law_shape", "_law_drawn_table", "_law_same_barred", "_law_orders", "_law_namings", "_law_renamed_world", "_law_shuffled", "_law_refusal", "_law_due", "_law_refusals_right"]
def loose3 : List Str := ["_law_due_between", "MOST_TIES", "MOST_LABEL", "MOST_GUESTS"]
def loose : List Str := loose0 ++ loose1 ++ loose2 ++ loose3

/-- what the top has left -/
structure Tx0 (K : PySem.W.Frag) (mg : Str → Option Value) : Prop where
  c : He.SaysD fa fn K
  ns : ∃ h : Heap, K.In h ∧ h.Ns mainGlobals mg
section
variable {K : PySem.W.Frag} {mg : Str → Option Value} (T : Tx0 K mg)
include T
theorem Tx0.g_is_whole : mg "is_whole" = some (.ref (He.ga K "is_whole")) := let ⟨_, X, N⟩ := T.ns; He.glo_ok X N (T.c.fact 0 (f := .glo "is_whole") rfl)
theorem Tx0.g_is_label : mg "is_label" = some (.ref (He.ga K "is_label")) := let ⟨_, X, N⟩ := T.ns; He.glo_ok X N (T.c.fact 1 (f := .glo "is_label") rfl)
theorem Tx0.g_row_word : mg "_row_word" = some (.ref (He.ga K "_row_word")) := let ⟨_, X, N⟩ := T.ns; He.glo_ok X N (T.c.fact 2 (f := .glo "_row_word") rfl)
theorem Tx0.g_check : mg "_check" = some (.ref (He.ga K "_check")) := let ⟨_, X, N⟩ := T.ns; He.glo_ok X N (T.c.fact 3 (f := .glo "_check") rfl)
theorem Tx0.g_is_three : mg "is_three" = some (.ref (He.ga K "is_three")) := let ⟨_, X, N⟩ := T.ns; He.glo_ok X N (T.c.fact 4 (f := .glo "is_three") rfl)
theorem Tx0.g_six : mg "_six" = some (.ref (He.ga K "_six")) := let ⟨_, X, N⟩ := T.ns; He.glo_ok X N (T.c.fact 5 (f := .glo "_six") rfl)
theorem Tx0.g_readings_of : mg "readings_of" = some (.ref (He.ga K "readings_of")) := let ⟨_, X, N⟩ := T.ns; He.glo_ok X N (T.c.fact 6 (f := .glo "readings_of") rfl)
theorem Tx0.g_check_threes : mg "_check_threes" = some (.ref (He.ga K "_check_threes")) := let ⟨_, X, N⟩ := T.ns; He.glo_ok X N (T.c.fact 7 (f := .glo "_check_threes") rfl)
theorem Tx0.g_is_couple : mg "_is_couple" = some (.ref (He.ga K "_is_couple")) := let ⟨_, X, N⟩ := T.ns; He.glo_ok X N (T.c.fact 8 (f := .glo "_is_couple") rfl)
theorem Tx0.g_names_of : mg "_names_of" = some (.ref (He.ga K "_names_of")) := let ⟨_, X, N⟩ := T.ns; He.glo_ok X N (T.c.fact 9 (f := .glo "_names_of") rfl)
theorem Tx0.g_check_alike : mg "_check_alike" = some (.ref (He.ga K "_check_alike")) := let ⟨_, X, N⟩ := T.ns; He.glo_ok X N (T.c.fact 10 (f := .glo "_check_alike") rfl)
theorem Tx0.g_all_names : mg "_all_names" = some (.ref (He.ga K "_all_names")) := let ⟨_, X, N⟩ := T.ns; He.glo_ok X N (T.c.fact 11 (f := .glo "_all_names") rfl)
theorem Tx0.g_keeps_backs : mg "_keeps_backs" = some (.ref (He.ga K "_keeps_backs")) := let ⟨_, X, N⟩ := T.ns; He.glo_ok X N (T.c.fact 12 (f := .glo "_keeps_backs") rfl)
theorem Tx0.g_same_up_to_names : mg "same_up_to_names" = some (.ref (He.ga K "same_up_to_names")) := let ⟨_, X, N⟩ := T.ns; He.glo_ok X N (T.c.fact 13 (f := .glo "same_up_to_names") rfl)
theorem Tx0.g_least_book : mg "least_book" = some (.ref (He.ga K "least_book")) := let ⟨_, X, N⟩ := T.ns; He.glo_ok X N (T.c.fact 14 (f := .glo "least_book") rfl)
theorem Tx0.g_law_mix : mg "_law_mix" = some (.ref (He.ga K "_law_mix")) := let ⟨_, X, N⟩ := T.ns; He.glo_ok X N (T.c.fact 15 (f := .glo "_law_mix") rfl)
theorem Tx0.g_law_hand : mg "_law_hand" = some (.ref (He.ga K "_law_hand")) := let ⟨_, X, N⟩ := T.ns; He.glo_ok X N (T.c.fact 16 (f := .glo "_law_hand") rfl)
theorem Tx0.g_law_draw : mg "_law_draw" = some (.ref (He.ga K "_law_draw")) := let ⟨_, X, N⟩ := T.ns; He.glo_ok X N (T.c.fact 17 (f := .glo "_law_draw") rfl)
theorem Tx0.g_law_pick : mg "_law_pick" = some (.ref (He.ga K "_law_pick")) := let ⟨_, X, N⟩ := T.ns; He.glo_ok X N (T.c.fact 18 (f := .glo "_law_pick") rfl)
theorem Tx0.g_law_backs : mg "_law_backs" = some (.ref (He.ga K "_law_backs")) := let ⟨_, X, N⟩ := T.ns; He.glo_ok X N (T.c.fact 19 (f := .glo "_law_backs") rfl)
theorem Tx0.g_law_readings : mg "_law_readings" = some (.ref (He.ga K "_law_readings")) := let ⟨_, X, N⟩ := T.ns; He.glo_ok X N (T.c.fact 20 (f := .glo "_law_readings") rfl)
theorem Tx0.g_law_classes : mg "_law_classes" = some (.ref (He.ga K "_law_classes")) := let ⟨_, X, N⟩ := T.ns; He.glo_ok X N (T.c.fact 21 (f := .glo "_law_classes") rfl)
theorem Tx0.g_law_let : mg "_law_let" = some (.ref (He.ga K "_law_let")) := let ⟨_, X, N⟩ := T.ns; He.glo_ok X N (T.c.fact 22 (f := .glo "_law_let") rfl)
theorem Tx0.g_law_barred : mg "_law_barred" = some (.ref (He.ga K "_law_barred")) := let ⟨_, X, N⟩ := T.ns; He.glo_ok X N (T.c.fact 23 (f := .glo "_law_barred") rfl)
theorem Tx0.g_law_any_world : mg "_law_any_world" = some (.ref (He.ga K "_law_any_world")) := let ⟨_, X, N⟩ := T.ns; He.glo_ok X N (T.c.fact 24 (f := .glo "_law_any_world") rfl)
theorem Tx0.g_law_bars_handed : mg "_law_bars_handed" = some (.ref (He.ga K "_law_bars_handed")) := let ⟨_, X, N⟩ := T.ns; He.glo_ok X N (T.c.fact 25 (f := .glo "_law_bars_handed") rfl)
theorem Tx0.g_law_labels : mg "_law_labels" = some (.ref (He.ga K "_law_labels")) := let ⟨_, X, N⟩ := T.ns; He.glo_ok X N (T.c.fact 26 (f := .glo "_law_labels") rfl)
theorem Tx0.g_law_fits : mg "_law_fits" = some (.ref (He.ga K "_law_fits")) := let ⟨_, X, N⟩ := T.ns; He.glo_ok X N (T.c.fact 27 (f := .glo "_law_fits") rfl)
theorem Tx0.g_law_rows : mg "_law_rows" = some (.ref (He.ga K "_law_rows")) := let ⟨_, X, N⟩ := T.ns; He.glo_ok X N (T.c.fact 28 (f := .glo "_law_rows") rfl)
theorem Tx0.g_law_company : mg "_law_company" = some (.ref (He.ga K "_law_company")) := let ⟨_, X, N⟩ := T.ns; He.glo_ok X N (T.c.fact 29 (f := .glo "_law_company") rfl)
theorem Tx0.g_law_book : mg "_law_book" = some (.ref (He.ga K "_law_book")) := let ⟨_, X, N⟩ := T.ns; He.glo_ok X N (T.c.fact 30 (f := .glo "_law_book") rfl)
theorem Tx0.g_law_plain : mg "_law_plain" = some (.ref (He.ga K "_law_plain")) := let ⟨_, X, N⟩ := T.ns; He.glo_ok X N (T.c.fact 31 (f := .glo "_law_plain") rfl)
theorem Tx0.g_law_shape : mg "_law_shape" = some (.ref (He.ga K "_law_shape")) := let ⟨_, X, N⟩ := T.ns; He.glo_ok X N (T.c.fact 32 (f := .glo "_law_shape") rfl)
theorem Tx0.g_law_drawn_table : mg "_law_drawn_table" = some (.ref (He.ga K "_law_drawn_table")) := let ⟨_, X, N⟩ := T.ns; He.glo_ok X N (T.c.fact 33 (f := .glo "_law_drawn_table") rfl)
theorem Tx0.g_law_same_barred : mg "_law_same_barred" = some (.ref (He.ga K "_law_same_barred")) := let ⟨_, X, N⟩ := T.ns; He.glo_ok X N (T.c.fact 34 (f := .glo "_law_same_barred") rfl)
theorem Tx0.g_law_orders : mg "_law_orders" = some (.ref (He.ga K "_law_orders")) := let ⟨_, X, N⟩ := T.ns; He.glo_ok X N (T.c.fact 35 (f := .glo "_law_orders") rfl)
theorem Tx0.g_law_namings : mg "_law_namings" = some (.ref (He.ga K "_law_namings")) := let ⟨_, X, N⟩ := T.ns; He.glo_ok X N (T.c.fact 36 (f := .glo "_law_namings") rfl)
theorem Tx0.g_law_renamed_world : mg "_law_renamed_world" = some (.ref (He.ga K "_law_renamed_world")) := let ⟨_, X, N⟩ := T.ns; He.glo_ok X N (T.c.fact 37 (f := .glo "_law_renamed_world") rfl)
theorem Tx0.g_law_shuffled : mg "_law_shuffled" = some (.ref (He.ga K "_law_shuffled")) := let ⟨_, X, N⟩ := T.ns; He.glo_ok X N (T.c.fact 38 (f := .glo "_law_shuffled") rfl)
theorem Tx0.g_law_refusal : mg "_law_refusal" = some (.ref (He.ga K "_law_refusal")) := let ⟨_, X, N⟩ := T.ns; He.glo_ok X N (T.c.fact 39 (f := .glo "_law_refusal") rfl)
theorem Tx0.g_law_due : mg "_law_due" = some (.ref (He.ga K "_law_due")) := let ⟨_, X, N⟩ := T.ns; He.glo_ok X N (T.c.fact 40 (f := .glo "_law_due") rfl)
theorem Tx0.g_law_refusals_right : mg "_law_refusals_right" = some (.ref (He.ga K "_law_refusals_right")) := let ⟨_, X, N⟩ := T.ns; He.glo_ok X N (T.c.fact 41 (f := .glo "_law_refusals_right") rfl)
theorem Tx0.g_law_due_between : mg "_law_due_between" = some (.ref (He.ga K "_law_due_between")) := let ⟨_, X, N⟩ := T.ns; He.glo_ok X N (T.c.fact 42 (f := .glo "_law_due_between") rfl)
theorem Tx0.g_law : mg "law" = some (.ref (He.ga K "law")) := let ⟨_, X, N⟩ := T.ns; He.glo_ok X N (T.c.fact 43 (f := .glo "law") rfl)
theorem Tx0.g_Ties : mg "Ties" = some (.ref (He.ga K "Ties")) := let ⟨_, X, N⟩ := T.ns; He.glo_ok X N (T.c.fact 63 (f := .glo "Ties") rfl)
theorem Tx0.g_Company : mg "Company" = some (.ref (He.ga K "Company")) := let ⟨_, X, N⟩ := T.ns; He.glo_ok X N (T.c.fact 69 (f := .glo "Company") rfl)
theorem Tx0.g_Book : mg "Book" = some (.ref (He.ga K "Book")) := let ⟨_, X, N⟩ := T.ns; He.glo_ok X N (T.c.fact 77 (f := .glo "Book") rfl)
theorem Tx0.g_GuestError : mg "GuestError" = some (.ref (He.ga K "GuestError")) := let ⟨_, X, N⟩ := T.ns; He.glo_ok X N (T.c.fact 89 (f := .glo "GuestError") rfl)
theorem Tx0.g_BadBook : mg "BadBook" = some (.ref (He.ga K "BadBook")) := let ⟨_, X, N⟩ := T.ns; He.glo_ok X N (T.c.fact 90 (f := .glo "BadBook") rfl)
theorem Tx0.g_OtherTies : mg "OtherTies" = some (.ref (He.ga K "OtherTies")) := let ⟨_, X, N⟩ := T.ns; He.glo_ok X N (T.c.fact 91 (f := .glo "OtherTies") rfl)
theorem Tx0.f_len : mg "len" = none := let ⟨_, X, N⟩ := T.ns; He.free_ok X N (T.c.fact 44 (f := .free "len") rfl)
theorem Tx0.f_range : mg "range" = none := let ⟨_, X, N⟩ := T.ns; He.free_ok X N (T.c.fact 45 (f := .free "range") rfl)
theorem Tx0.f_isinstance : mg "isinstance" = none := let ⟨_, X, N⟩ := T.ns; He.free_ok X N (T.c.fact 46 (f := .free "isinstance") rfl)
theorem Tx0.f_tuple : mg "tuple" = none := let ⟨_, X, N⟩ := T.ns; He.free_ok X N (T.c.fact 47 (f := .free "tuple") rfl)
theorem Tx0.f_list : mg "list" = none := let ⟨_, X, N⟩ := T.ns; He.free_ok X N (T.c.fact 48 (f := .free "list") rfl)
theorem Tx0.f_int : mg "int" = none := let ⟨_, X, N⟩ := T.ns; He.free_ok X N (T.c.fact 49 (f := .free "int") rfl)
theorem Tx0.f_abs : mg "abs" = none := let ⟨_, X, N⟩ := T.ns; He.free_ok X N (T.c.fact 50 (f := .free "abs") rfl)
theorem Tx0.f_sorted : mg "sorted" = none := let ⟨_, X, N⟩ := T.ns; He.free_ok X N (T.c.fact 51 (f := .free "sorted") rfl)
theorem Tx0.f_set : mg "set" = none := let ⟨_, X, N⟩ := T.ns; He.free_ok X N (T.c.fact 52 (f := .free "set") rfl)
theorem Tx0.f_min : mg "min" = none := let ⟨_, X, N⟩ := T.ns; He.free_ok X N (T.c.fact 53 (f := .free "min") rfl)
theorem Tx0.f_max : mg "max" = none := let ⟨_, X, N⟩ := T.ns; He.free_ok X N (T.c.fact 54 (f := .free "max") rfl)
theorem Tx0.f_enumerate : mg "enumerate" = none := let ⟨_, X, N⟩ := T.ns; He.free_ok X N (T.c.fact 55 (f := .free "enumerate") rfl)
theorem Tx0.f_zip : mg "zip" = none := let ⟨_, X, N⟩ := T.ns; He.free_ok X N (T.c.fact 56 (f := .free "zip") rfl)
theorem Tx0.f_bool : mg "bool" = none := let ⟨_, X, N⟩ := T.ns; He.free_ok X N (T.c.fact 57 (f := .free "bool") rfl)
theorem Tx0.f_super : mg "super" = none := let ⟨_, X, N⟩ := T.ns; He.free_ok X N (T.c.fact 58 (f := .free "super") rfl)
theorem Tx0.f_str : mg "str" = none := let ⟨_, X, N⟩ := T.ns; He.free_ok X N (T.c.fact 59 (f := .free "str") rfl)
theorem Tx0.i_MOST_TIES : ∃ t, mg "MOST_TIES" = some (.int 4 t) := let ⟨_, X, N⟩ := T.ns; He.int_ok X N (T.c.fact 60 (f := .int "MOST_TIES" 4) rfl)
theorem Tx0.i_MOST_LABEL : ∃ t, mg "MOST_LABEL" = some (.int 1000000000 t) := let ⟨_, X, N⟩ := T.ns; He.int_ok X N (T.c.fact 61 (f := .int "MOST_LABEL" 1000000000) rfl)
theorem Tx0.i_MOST_GUESTS : ∃ t, mg "MOST_GUESTS" = some (.int 60 t) := let ⟨_, X, N⟩ := T.ns; He.int_ok X N (T.c.fact 62 (f := .int "MOST_GUESTS" 60) rfl)
theorem Tx0.c_Ties : Cls K (He.ga K "Ties") := He.cls_ok (T.c.fact 64 (f := .cls "Ties") rfl)
theorem Tx0.m_Ties : Mk K (He.ga K "Ties") (He.ma K (He.ga K "Ties") "__init__") := He.mkr_ok (T.c.fact 65 (f := .mkr "Ties") rfl)
theorem Tx0.n_Ties_backs : NoAttr K (He.ga K "Ties") "backs" := He.noat_ok (T.c.fact 66 (f := .noat "Ties" "backs") rfl)
theorem Tx0.n_Ties_many : NoAttr K (He.ga K "Ties") "many" := He.noat_ok (T.c.fact 67 (f := .noat "Ties" "many") rfl)
theorem Tx0.h_Ties_eq : Meth K (He.ga K "Ties") "__eq__" (He.ma K (He.ga K "Ties") "__eq__") := He.meth_ok (T.c.fact 68 (f := .meth "Ties" "__eq__") rfl)
theorem Tx0.c_Company : Cls K (He.ga K "Company") := He.cls_ok (T.c.fact 70 (f := .cls "Company") rfl)
theorem Tx0.m_Company : Mk K (He.ga K "Company") (He.ma K (He.ga K "Company") "__init__") := He.mkr_ok (T.c.fact 71 (f := .mkr "Company") rfl)
theorem Tx0.n_Company_ties : NoAttr K (He.ga K "Company") "ties" := He.noat_ok (T.c.fact 72 (f := .noat "Company" "ties") rfl)
theorem Tx0.n_Company_guests : NoAttr K (He.ga K "Company") "guests" := He.noat_ok (T.c.fact 73 (f := .noat "Company" "guests") rfl)
theorem Tx0.n_Company_rows : NoAttr K (He.ga K "Company") "rows" := He.noat_ok (T.c.fact 74 (f := .noat "Company" "rows") rfl)
theorem Tx0.h_Company_tie_at : Meth K (He.ga K "Company") "tie_at" (He.ma K (He.ga K "Company") "tie_at") := He.meth_ok (T.c.fact 75 (f := .meth "Company" "tie_at") rfl)
theorem Tx0.h_Company_len : Meth K (He.ga K "Company") "__len__" (He.ma K (He.ga K "Company") "__len__") := He.meth_ok (T.c.fact 76 (f := .meth "Company" "__len__") rfl)
theorem Tx0.c_Book : Cls K (He.ga K "Book") := He.cls_ok (T.c.fact 78 (f := .cls "Book") rfl)
theorem Tx0.m_Book : Mk K (He.ga K "Book") (He.ma K (He.ga K "Book") "__init__") := He.mkr_ok (T.c.fact 79 (f := .mkr "Book") rfl)
theorem Tx0.n_Book_ties : NoAttr K (He.ga K "Book") "ties" := He.noat_ok (T.c.fact 80 (f := .noat "Book" "ties") rfl)
theorem Tx0.n_Book_barred : NoAttr K (He.ga K "Book") "barred" := He.noat_ok (T.c.fact 81 (f := .noat "Book" "barred") rfl)
theorem Tx0.n_Book_least_barred : NoAttr K (He.ga K "Book") "least_barred" := He.noat_ok (T.c.fact 82 (f := .noat "Book" "least_barred") rfl)
theorem Tx0.n_Book_grid : NoAttr K (He.ga K "Book") "grid" := He.noat_ok (T.c.fact 83 (f := .noat "Book" "grid") rfl)
theorem Tx0.h_Book_check_backs : Meth K (He.ga K "Book") "_check_backs" (He.ma K (He.ga K "Book") "_check_backs") := He.meth_ok (T.c.fact 84 (f := .meth "Book" "_check_backs") rfl)
theorem Tx0.h_Book_company_fault : Meth K (He.ga K "Book") "company_fault" (He.ma K (He.ga K "Book") "company_fault") := He.meth_ok (T.c.fact 85 (f := .meth "Book" "company_fault") rfl)
theorem Tx0.h_Book_lets : Meth K (He.ga K "Book") "lets" (He.ma K (He.ga K "Book") "lets") := He.meth_ok (T.c.fact 86 (f := .meth "Book" "lets") rfl)
theorem Tx0.h_Book_renamed_ties : Meth K (He.ga K "Book") "renamed_ties" (He.ma K (He.ga K "Book") "renamed_ties") := He.meth_ok (T.c.fact 87 (f := .meth "Book" "renamed_ties") rfl)
theorem Tx0.h_Book_eq : Meth K (He.ga K "Book") "__eq__" (He.ma K (He.ga K "Book") "__eq__") := He.meth_ok (T.c.fact 88 (f := .meth "Book" "__eq__") rfl)
theorem Tx0.F_is_whole : ∃ fd, FunD K d_is_whole.name d_is_whole.qual d_is_whole.params d_is_whole.body d_is_whole.scope (d_is_whole.dvs K) (d_is_whole.kws K) (He.fAd K d_is_whole.at_) fd := T.c.def_ 0 (d := d_is_whole) rfl
theorem Tx0.F_is_label : ∃ fd, FunD K d_is_label.name d_is_label.qual d_is_label.params d_is_label.body d_is_label.scope (d_is_label.dvs K) (d_is_label.kws K) (He.fAd K d_is_label.at_) fd := T.c.def_ 1 (d := d_is_label) rfl
theorem Tx0.F_row_word : ∃ fd, FunD K d_row_word.name d_row_word.qual d_row_word.params d_row_word.body d_row_word.scope (d_row_word.dvs K) (d_row_word.kws K) (He.fAd K d_row_word.at_) fd := T.c.def_ 2 (d := d_row_word) rfl
theorem Tx0.F_check : ∃ fd, FunD K d_check.name d_check.qual d_check.params d_check.body d_check.scope (d_check.dvs K) (d_check.kws K) (He.fAd K d_check.at_) fd := T.c.def_ 3 (d := d_check) rfl
theorem Tx0.F_is_three : ∃ fd, FunD K d_is_three.name d_is_three.qual d_is_three.params d_is_three.body d_is_three.scope (d_is_three.dvs K) (d_is_three.kws K) (He.fAd K d_is_three.at_) fd := T.c.def_ 4 (d := d_is_three) rfl
theorem Tx0.F_six : ∃ fd, FunD K d_six.name d_six.qual d_six.params d_six.body d_six.scope (d_six.dvs K) (d_six.kws K) (He.fAd K d_six.at_) fd := T.c.def_ 5 (d := d_six) rfl
theorem Tx0.F_readings_of : ∃ fd, FunD K d_readings_of.name d_readings_of.qual d_readings_of.params d_readings_of.body d_readings_of.scope (d_readings_of.dvs K) (d_readings_of.kws K) (He.fAd K d_readings_of.at_) fd := T.c.def_ 6 (d := d_readings_of) rfl
theorem Tx0.F_check_threes : ∃ fd, FunD K d_check_threes.name d_check_threes.qual d_check_threes.params d_check_threes.body d_check_threes.scope (d_check_threes.dvs K) (d_check_threes.kws K) (He.fAd K d_check_threes.at_) fd := T.c.def_ 7 (d := d_check_threes) rfl
theorem Tx0.F_is_couple : ∃ fd, FunD K d_is_couple.name d_is_couple.qual d_is_couple.params d_is_couple.body d_is_couple.scope (d_is_couple.dvs K) (d_is_couple.kws K) (He.fAd K d_is_couple.at_) fd := T.c.def_ 8 (d := d_is_couple) rfl
theorem Tx0.F_names_of : ∃ fd, FunD K d_names_of.name d_names_of.qual d_names_of.params d_names_of.body d_names_of.scope (d_names_of.dvs K) (d_names_of.kws K) (He.fAd K d_names_of.at_) fd := T.c.def_ 9 (d := d_names_of) rfl
theorem Tx0.F_check_alike : ∃ fd, FunD K d_check_alike.name d_check_alike.qual d_check_alike.params d_check_alike.body d_check_alike.scope (d_check_alike.dvs K) (d_check_alike.kws K) (He.fAd K d_check_alike.at_) fd := T.c.def_ 10 (d := d_check_alike) rfl
theorem Tx0.F_all_names : ∃ fd, FunD K d_all_names.name d_all_names.qual d_all_names.params d_all_names.body d_all_names.scope (d_all_names.dvs K) (d_all_names.kws K) (He.fAd K d_all_names.at_) fd := T.c.def_ 11 (d := d_all_names) rfl
theorem Tx0.F_keeps_backs : ∃ fd, FunD K d_keeps_backs.name d_keeps_backs.qual d_keeps_backs.params d_keeps_backs.body d_keeps_backs.scope (d_keeps_backs.dvs K) (d_keeps_backs.kws K) (He.fAd K d_keeps_backs.at_) fd := T.c.def_ 12 (d := d_keeps_backs) rfl
theorem Tx0.F_same_up_to_names : ∃ fd, FunD K d_same_up_to_names.name d_same_up_to_names.qual d_same_up_to_names.params d_same_up_to_names.body d_same_up_to_names.scope (d_same_up_to_names.dvs K) (d_same_up_to_names.kws K) (He.fAd K d_same_up_to_names.at_) fd := T.c.def_ 13 (d := d_same_up_to_names) rfl
theorem Tx0.F_least_book : ∃ fd, FunD K d_least_book.name d_least_book.qual d_least_book.params d_least_book.body d_least_book.scope (d_least_book.dvs K) (d_least_book.kws K) (He.fAd K d_least_book.at_) fd := T.c.def_ 14 (d := d_least_book) rfl
theorem Tx0.F_law_mix : ∃ fd, FunD K d_law_mix.name d_law_mix.qual d_law_mix.params d_law_mix.body d_law_mix.scope (d_law_mix.dvs K) (d_law_mix.kws K) (He.fAd K d_law_mix.at_) fd := T.c.def_ 15 (d := d_law_mix) rfl
theorem Tx0.F_law_hand : ∃ fd, FunD K d_law_hand.name d_law_hand.qual d_law_hand.params d_law_hand.body d_law_hand.scope (d_law_hand.dvs K) (d_law_hand.kws K) (He.fAd K d_law_hand.at_) fd := T.c.def_ 16 (d := d_law_hand) rfl
theorem Tx0.F_law_draw : ∃ fd, FunD K d_law_draw.name d_law_draw.qual d_law_draw.params d_law_draw.body d_law_draw.scope (d_law_draw.dvs K) (d_law_draw.kws K) (He.fAd K d_law_draw.at_) fd := T.c.def_ 17 (d := d_law_draw) rfl
theorem Tx0.F_law_pick : ∃ fd, FunD K d_law_pick.name d_law_pick.qual d_law_pick.params d_law_pick.body d_law_pick.scope (d_law_pick.dvs K) (d_law_pick.kws K) (He.fAd K d_law_pick.at_) fd := T.c.def_ 18 (d := d_law_pick) rfl
theorem Tx0.F_law_backs : ∃ fd, FunD K d_law_backs.name d_law_backs.qual d_law_backs.params d_law_backs.body d_law_backs.scope (d_law_backs.dvs K) (d_law_backs.kws K) (He.fAd K d_law_backs.at_) fd := T.c.def_ 19 (d := d_law_backs) rfl
theorem Tx0.F_law_readings : ∃ fd, FunD K d_law_readings.name d_law_readings.qual d_law_readings.params d_law_readings.body d_law_readings.scope (d_law_readings.dvs K) (d_law_readings.kws K) (He.fAd K d_law_readings.at_) fd := T.c.def_ 20 (d := d_law_readings) rfl
theorem Tx0.F_law_classes : ∃ fd, FunD K d_law_classes.name d_law_classes.qual d_law_classes.params d_law_classes.body d_law_classes.scope (d_law_classes.dvs K) (d_law_classes.kws K) (He.fAd K d_law_classes.at_) fd := T.c.def_ 21 (d := d_law_classes) rfl
theorem Tx0.F_law_let : ∃ fd, FunD K d_law_let.name d_law_let.qual d_law_let.params d_law_let.body d_law_let.scope (d_law_let.dvs K) (d_law_let.kws K) (He.fAd K d_law_let.at_) fd := T.c.def_ 22 (d := d_law_let) rfl
theorem Tx0.F_law_barred : ∃ fd, FunD K d_law_barred.name d_law_barred.qual d_law_barred.params d_law_barred.body d_law_barred.scope (d_law_barred.dvs K) (d_law_barred.kws K) (He.fAd K d_law_barred.at_) fd := T.c.def_ 23 (d := d_law_barred) rfl
theorem Tx0.F_law_any_world : ∃ fd, FunD K d_law_any_world.name d_law_any_world.qual d_law_any_world.params d_law_any_world.body d_law_any_world.scope (d_law_any_world.dvs K) (d_law_any_world.kws K) (He.fAd K d_law_any_world.at_) fd := T.c.def_ 24 (d := d_law_any_world) rfl
theorem Tx0.F_law_bars_handed : ∃ fd, FunD K d_law_bars_handed.name d_law_bars_handed.qual d_law_bars_handed.params d_law_bars_handed.body d_law_bars_handed.scope (d_law_bars_handed.dvs K) (d_law_bars_handed.kws K) (He.fAd K d_law_bars_handed.at_) fd := T.c.def_ 25 (d := d_law_bars_handed) rfl
theorem Tx0.F_law_labels : ∃ fd, FunD K d_law_labels.name d_law_labels.qual d_law_labels.params d_law_labels.body d_law_labels.scope (d_law_labels.dvs K) (d_law_labels.kws K) (He.fAd K d_law_labels.at_) fd := T.c.def_ 26 (d := d_law_labels) rfl
theorem Tx0.F_law_fits : ∃ fd, FunD K d_law_fits.name d_law_fits.qual d_law_fits.params d_law_fits.body d_law_fits.scope (d_law_fits.dvs K) (d_law_fits.kws K) (He.fAd K d_law_fits.at_) fd := T.c.def_ 27 (d := d_law_fits) rfl
theorem Tx0.F_law_rows : ∃ fd, FunD K d_law_rows.name d_law_rows.qual d_law_rows.params d_law_rows.body d_law_rows.scope (d_law_rows.dvs K) (d_law_rows.kws K) (He.fAd K d_law_rows.at_) fd := T.c.def_ 28 (d := d_law_rows) rfl
theorem Tx0.F_law_company : ∃ fd, FunD K d_law_company.name d_law_company.qual d_law_company.params d_law_company.body d_law_company.scope (d_law_company.dvs K) (d_law_company.kws K) (He.fAd K d_law_company.at_) fd := T.c.def_ 29 (d := d_law_company) rfl
theorem Tx0.F_law_book : ∃ fd, FunD K d_law_book.name d_law_book.qual d_law_book.params d_law_book.body d_law_book.scope (d_law_book.dvs K) (d_law_book.kws K) (He.fAd K d_law_book.at_) fd := T.c.def_ 30 (d := d_law_book) rfl
theorem Tx0.F_law_plain : ∃ fd, FunD K d_law_plain.name d_law_plain.qual d_law_plain.params d_law_plain.body d_law_plain.scope (d_law_plain.dvs K) (d_law_plain.kws K) (He.fAd K d_law_plain.at_) fd := T.c.def_ 31 (d := d_law_plain) rfl
theorem Tx0.F_law_shape : ∃ fd, FunD K d_law_shape.name d_law_shape.qual d_law_shape.params d_law_shape.body d_law_shape.scope (d_law_shape.dvs K) (d_law_shape.kws K) (He.fAd K d_law_shape.at_) fd := T.c.def_ 32 (d := d_law_shape) rfl
theorem Tx0.F_law_drawn_table : ∃ fd, FunD K d_law_drawn_table.name d_law_drawn_table.qual d_law_drawn_table.params d_law_drawn_table.body d_law_drawn_table.scope (d_law_drawn_table.dvs K) (d_law_drawn_table.kws K) (He.fAd K d_law_drawn_table.at_) fd := T.c.def_ 33 (d := d_law_drawn_table) rfl
theorem Tx0.F_law_same_barred : ∃ fd, FunD K d_law_same_barred.name d_law_same_barred.qual d_law_same_barred.params d_law_same_barred.body d_law_same_barred.scope (d_law_same_barred.dvs K) (d_law_same_barred.kws K) (He.fAd K d_law_same_barred.at_) fd := T.c.def_ 34 (d := d_law_same_barred) rfl
theorem Tx0.F_law_orders : ∃ fd, FunD K d_law_orders.name d_law_orders.qual d_law_orders.params d_law_orders.body d_law_orders.scope (d_law_orders.dvs K) (d_law_orders.kws K) (He.fAd K d_law_orders.at_) fd := T.c.def_ 35 (d := d_law_orders) rfl
theorem Tx0.F_law_namings : ∃ fd, FunD K d_law_namings.name d_law_namings.qual d_law_namings.params d_law_namings.body d_law_namings.scope (d_law_namings.dvs K) (d_law_namings.kws K) (He.fAd K d_law_namings.at_) fd := T.c.def_ 36 (d := d_law_namings) rfl
theorem Tx0.F_law_renamed_world : ∃ fd, FunD K d_law_renamed_world.name d_law_renamed_world.qual d_law_renamed_world.params d_law_renamed_world.body d_law_renamed_world.scope (d_law_renamed_world.dvs K) (d_law_renamed_world.kws K) (He.fAd K d_law_renamed_world.at_) fd := T.c.def_ 37 (d := d_law_renamed_world) rfl
theorem Tx0.F_law_shuffled : ∃ fd, FunD K d_law_shuffled.name d_law_shuffled.qual d_law_shuffled.params d_law_shuffled.body d_law_shuffled.scope (d_law_shuffled.dvs K) (d_law_shuffled.kws K) (He.fAd K d_law_shuffled.at_) fd := T.c.def_ 38 (d := d_law_shuffled) rfl
theorem Tx0.F_law_refusal : ∃ fd, FunD K d_law_refusal.name d_law_refusal.qual d_law_refusal.params d_law_refusal.body d_law_refusal.scope (d_law_refusal.dvs K) (d_law_refusal.kws K) (He.fAd K d_law_refusal.at_) fd := T.c.def_ 39 (d := d_law_refusal) rfl
theorem Tx0.F_law_due : ∃ fd, FunD K d_law_due.name d_law_due.qual d_law_due.params d_law_due.body d_law_due.scope (d_law_due.dvs K) (d_law_due.kws K) (He.fAd K d_law_due.at_) fd := T.c.def_ 40 (d := d_law_due) rfl
theorem Tx0.F_law_refusals_right : ∃ fd, FunD K d_law_refusals_right.name d_law_refusals_right.qual d_law_refusals_right.params d_law_refusals_right.body d_law_refusals_right.scope (d_law_refusals_right.dvs K) (d_law_refusals_right.kws K) (He.fAd K d_law_refusals_right.at_) fd := T.c.def_ 41 (d := d_law_refusals_right) rfl
theorem Tx0.F_law_due_between : ∃ fd, FunD K d_law_due_between.name d_law_due_between.qual d_law_due_between.params d_law_due_between.body d_law_due_between.scope (d_law_due_between.dvs K) (d_law_due_between.kws K) (He.fAd K d_law_due_between.at_) fd := T.c.def_ 42 (d := d_law_due_between) rfl
theorem Tx0.F_law : ∃ fd, FunD K d_law.name d_law.qual d_law.params d_law.body d_law.scope (d_law.dvs K) (d_law.kws K) (He.fAd K d_law.at_) fd := T.c.def_ 43 (d := d_law) rfl
theorem Tx0.F_Ties_init : ∃ fd, FunD K d_Ties_init.name d_Ties_init.qual d_Ties_init.params d_Ties_init.body d_Ties_init.scope (d_Ties_init.dvs K) (d_Ties_init.kws K) (He.fAd K d_Ties_init.at_) fd := T.c.def_ 44 (d := d_Ties_init) rfl
theorem Tx0.F_Ties_eq : ∃ fd, FunD K d_Ties_eq.name d_Ties_eq.qual d_Ties_eq.params d_Ties_eq.body d_Ties_eq.scope (d_Ties_eq.dvs K) (d_Ties_eq.kws K) (He.fAd K d_Ties_eq.at_) fd := T.c.def_ 45 (d := d_Ties_eq) rfl
theorem Tx0.F_Company_init : ∃ fd, FunD K d_Company_init.name d_Company_init.qual d_Company_init.params d_Company_init.body d_Company_init.scope (d_Company_init.dvs K) (d_Company_init.kws K) (He.fAd K d_Company_init.at_) fd := T.c.def_ 46 (d := d_Company_init) rfl
theorem Tx0.F_Company_tie_at : ∃ fd, FunD K d_Company_tie_at.name d_Company_tie_at.qual d_Company_tie_at.params d_Company_tie_at.body d_Company_tie_at.scope (d_Company_tie_at.dvs K) (d_Company_tie_at.kws K) (He.fAd K d_Company_tie_at.at_) fd := T.c.def_ 47 (d := d_Company_tie_at) rfl
theorem Tx0.F_Company_len : ∃ fd, FunD K d_Company_len.name d_Company_len.qual d_Company_len.params d_Company_len.body d_Company_len.scope (d_Company_len.dvs K) (d_Company_len.kws K) (He.fAd K d_Company_len.at_) fd := T.c.def_ 48 (d := d_Company_len) rfl
theorem Tx0.F_Book_init : ∃ fd, FunD K d_Book_init.name d_Book_init.qual d_Book_init.params d_Book_init.body d_Book_init.scope (d_Book_init.dvs K) (d_Book_init.kws K) (He.fAd K d_Book_init.at_) fd := T.c.def_ 49 (d := d_Book_init) rfl
theorem Tx0.F_Book_check_backs : ∃ fd, FunD K d_Book_check_backs.name d_Book_check_backs.qual d_Book_check_backs.params d_Book_check_backs.body d_Book_check_backs.scope (d_Book_check_backs.dvs K) (d_Book_check_backs.kws K) (He.fAd K d_Book_check_backs.at_) fd := T.c.def_ 50 (d := d_Book_check_backs) rfl
theorem Tx0.F_Book_company_fault : ∃ fd, FunD K d_Book_company_fault.name d_Book_company_fault.qual d_Book_company_fault.params d_Book_company_fault.body d_Book_company_fault.scope (d_Book_company_fault.dvs K) (d_Book_company_fault.kws K) (He.fAd K d_Book_company_fault.at_) fd := T.c.def_ 51 (d := d_Book_company_fault) rfl
theorem Tx0.F_Book_lets : ∃ fd, FunD K d_Book_lets.name d_Book_lets.qual d_Book_lets.params d_Book_lets.body d_Book_lets.scope (d_Book_lets.dvs K) (d_Book_lets.kws K) (He.fAd K d_Book_lets.at_) fd := T.c.def_ 52 (d := d_Book_lets) rfl
theorem Tx0.F_Book_renamed_ties : ∃ fd, FunD K d_Book_renamed_ties.name d_Book_renamed_ties.qual d_Book_renamed_ties.params d_Book_renamed_ties.body d_Book_renamed_ties.scope (d_Book_renamed_ties.dvs K) (d_Book_renamed_ties.kws K) (He.fAd K d_Book_renamed_ties.at_) fd := T.c.def_ 53 (d := d_Book_renamed_ties) rfl
theorem Tx0.F_Book_eq : ∃ fd, FunD K d_Book_eq.name d_Book_eq.qual d_Book_eq.params d_Book_eq.body d_Book_eq.scope (d_Book_eq.dvs K) (d_Book_eq.kws K) (He.fAd K d_Book_eq.at_) fd := T.c.def_ 54 (d := d_Book_eq) rfl
end
/-! ### calls by facts -/
section
variable (P : Program) (w : World) (K : PySem.W.Frag) (mg : Str → Option Value) (base : Heap) (CX : CXT) (k : Nat)
structure Cal (x : Str) (ps : List Str) (sp : Sp) : Prop where
  ex : ∃ fd, FnOk P w K mg base CX k (He.ga K x) fd ps sp ∧ Binds K fd ps []
  kp : PySem.W.keepIn K (.ref (He.ga K x)) = true
  g : mg x = some (.ref (He.ga K x))
structure CalC (x : Str) (ps : List Str) (sp : Sp) : Prop where
  ex : ∃ fd, FnOk P w K mg base CX k (He.ma K (He.ga K x) "__init__") fd ps sp ∧ Binds K fd ps []
  m : Mk K (He.ga K x) (He.ma K (He.ga K x) "__init__")
  g : mg x = some (.ref (He.ga K x))
structure CalM (x m : Str) (ps : List Str) (sp : Sp) : Prop where
  ex : ∃ fd, FnOk P w K mg base CX k (He.ma K (He.ga K x) m) fd ps sp ∧ Binds K fd ps []
  m : Meth K (He.ga K x) m (He.ma K (He.ga K x) m)
end
section
variable {X : Cx} {CX : CXT} {k : Nat} {ps : List Str} {sp : Sp} {E : XK} {x m : Str} {p pos apos : Pos} {e o : Expr} {es : List Expr} {ta : TE} {t : TA}
theorem pe_cal (C : Cal X.prog X.w X.K X.mg X.base CX k x ps sp) (hr : Room k X.A) (hg : Gl X x) (hx : Passes CX X E) (ha : PA X (e :: es) t) (hdb : (x == ("__debug__" : Str)) = false := by decide)
    (he : starEach (e :: es) X.env = (false, eval e X.env) :: starEach es X.env := by rfl) (hpl : (backTo pos (starEach es X.env)).any (·.1) = false := by rfl) : PE X (.Call (.Name x p) (e :: es) [] pos) (tCall sp [] E t) := by
  obtain ⟨fd, F, b⟩ := C.ex
  exact pe_call F hr hg C.g C.kp b .nil hx ha hdb he hpl
theorem pe_calC (C : CalC X.prog X.w X.K X.mg X.base CX k x ps sp) (hr : Room (k + 1) X.A) (hg : Gl X x) (hx : Passes CX X E) (ha : PA X (e :: es) t) (hdb : (x == ("__debug__" : Str)) = false := by decide)
    (he : starEach (e :: es) X.env = (false, eval e X.env) :: starEach es X.env := by rfl) (hpl : (backTo pos (starEach es X.env)).any (·.1) = false := by rfl) : PE X (.Call (.Name x p) (e :: es) [] pos) (tMake (He.ga X.K x) sp [] E t) := by
  obtain ⟨fd, F, b⟩ := C.ex
  exact pe_make C.m F hr hg C.g b .nil hx ha hdb he hpl
theorem pe_calM {pl : Sem Bool} (C : CalM X.prog X.w X.K X.mg X.base CX k x m ps sp) (c : Cls X.K (He.ga X.K x)) (hr : Room k X.A) (hx : Passes CX X E) (he : PE X o ta) (ha : PA X (e :: es) t)
    (hst : starEach (e :: es) X.env = (false, eval e X.env) :: starEach es X.env := by rfl) (hpl : (backTo pos (starEach es X.env)).any (·.1) = false := by rfl)
    (ht : eval (.Call (.Attribute o m apos) (e :: es) [] pos) X.env = (do
      let ov ← eval o X.env
      standAt apos.atName
      let (f, first) ← holding [ov] (getMethod ov m pl)
      callWith pos f first (backTo pos (starEach (e :: es) X.env)) (backToKw pos (keywordEach [] X.env))) := by rfl) : PE X (.Call (.Attribute o m apos) (e :: es) [] pos) (tMeth (He.ga X.K x) m sp [] E ta t) := by
  obtain ⟨fd, F, b⟩ := C.ex
  exact pe_meth he c C.m F hr b .nil hx ha hst hpl ht
theorem pe_calM0 {pl : Sem Bool} (C : CalM X.prog X.w X.K X.mg X.base CX k x m ps sp) (c : Cls X.K (He.ga X.K x)) (hr : Room k X.A) (hx : Passes CX X E) (he : PE X o ta)
    (ht : eval (.Call (.Attribute o m apos) [] [] pos) X.env = (do
      let ov ← eval o X.env
      standAt apos.atName
      let (f, first) ← holding [ov] (getMethod ov m pl)
      callWith pos f first (backTo pos (starEach [] X.env)) (backToKw pos (keywordEach [] X.env))) := by rfl) : PE X (.Call (.Attribute o m apos) [] [] pos) (tMeth (He.ga X.K x) m sp [] E ta tNil) := by
  obtain ⟨fd, F, b⟩ := C.ex
  exact pe_meth0 he c C.m F hr b .nil hx ht
theorem pe_globI {i : Int} (hg : Gl X x) (hm : ∃ t, X.mg x = some (.int i t)) (hd : (x == ("__debug__" : Str)) = false := by decide) : PE X (.Name x pos) (tC (.int i)) := by
  obtain ⟨t, h⟩ := hm
  exact pe_glob hg h ⟨t, rfl⟩ hd
theorem ps_never {st : Stmt} : PS X st tNever := ⟨fun _ _ _ _ _ _ h => h.elim⟩
theorem hu65_of {A : Around} {k : Nat} (hr : Room k A) : A.units + 65 < cLine := by
  have := hr.un
  omega
end
theorem binds_all {K : PySem.W.Frag} {x qual : Str} {params : Arguments} {body : List Stmt} {scope : Scope} {dvs : List V} {f : Addr} {fd : FuncData} {ps : List Str} (F : FunD K x qual params body scope dvs [] f fd) (n : Nat) (hd : dvs.length = n + 1)
    (h : ∀ (T : Addr) (kV doc pm : Value) (an : Option Addr) (cdv ct : Value) (us its : List Value), us.length = ps.length → its.length = dvs.length →
      ∃ k, bindArgs (PySem.W.fnOf x qual params body scope (.ref T) kV doc pm an cdv ct) ⟨us, []⟩ = seqItems? (.ref T) >>= k ∧ k (some its.toArray) = pure (ps.zip us)) : Binds K fd ps [] := by
  obtain ⟨ds, hv, b⟩ := F.binds1 (ps := ps) ps.length dvs.length (fun e => by rw [e] at hd; cases hd) (by omega) fun T kV doc pm an cdv ct us its h1 h2 => by
    obtain ⟨k, e1, e2⟩ := h T kV doc pm an cdv ct us its h1 h2
    exact ⟨k, e1, by rw [e2, ← h2, List.drop_length, List.append_nil]⟩
  rw [List.drop_length] at hv
  cases hv
  exact b
/-! ### shorthands of readings -/
abbrev rAdd : R2 := rI0 fun i j => .int (i + j)
abbrev rSub : R2 := rI0 fun i j => .int (i - j)
abbrev rMul : R2 := rI CMul fun i j => .int (i * j)
abbrev rFdiv : R2 := rI CDivN fun i j => .int (i.fdiv j)
abbrev rMod : R2 := rI (fun _ j => 0 < j) fun i j => .int (i % j)
abbrev rPow : R2 := rI CPow fun i j => .int (i ^ j.toNat)
abbrev rLt : R2 := rI0 fun i j => .bl (decide (i < j))
abbrev rLe : R2 := rI0 fun i j => .bl (decide (i ≤ j))
abbrev rGt : R2 := rI0 fun i j => .bl (decide (j < i))
abbrev rGe : R2 := rI0 fun i j => .bl (decide (j ≤ i))
abbrev rLenD : List V → Hp → VK → Prop := fun xs H Q => ∃ a kvs, xs = [V.ref a] ∧ H a = some (.dK kvs) ∧ Q (.int kvs.length) H
abbrev rListT : List V → Hp → VK → Prop := fun xs H Q => ∃ d kvs, xs = [V.ref d] ∧ Rd H d (.dT kvs) ∧ ∀ p bs, H p = none → IsKeys H kvs bs → Q (.ref p) (upd H p (.lst (bs.map V.ref)))
/-- .. and what He.Fa does not tell -/
structure Tx (K : PySem.W.Frag) (mg : Str → Option Value) : Prop extends Tx0 K mg where
  isT : SlX.SIsi K (He.ga K "Ties")
  isB : SlX.SIsi K (He.ga K "Book")
end Z
set_option Elab.async false
set_option linter.all false
set_option maxRecDepth 100000
set_option maxHeartbeats 1000000
namespace Z
open PySem PySem.Spec PyProof.Rows L2
open PySem.W (EachIs AllAlike Sortable dataLe sorted_data alike AlikeAll minD dataLt min_list_data alike_unique each_readsAll lt_data)
open SlX (cmpback run_at)
section
variable {X : Cx}
/-! ### lists of values back from their data -/
def Vd (K : PySem.W.Frag) (H : Hp) (u : Value) (d : PyData) : Prop := ∃ v, RelV v u ∧ Dq K H v d
theorem each_vd {K : PySem.W.Frag} {H : Hp} : ∀ {vs : List V} {us : List Value} {ds : List PyData}, Vals vs us → DqAll K H vs ds → EachIs (Vd K H) us ds
  | [], _, [], .nil, .nil => .nil
  | _ :: _, _, _ :: _, .cons r rr, .cons h hh => .cons ⟨_, r, h⟩ (each_vd rr hh)
theorem vd_back {K : PySem.W.Frag} {H : Hp} : ∀ {us : List Value} {ds : List PyData}, EachIs (Vd K H) us ds → ∃ vs, Vals vs us ∧ DqAll K H vs ds
  | [], [], .nil => ⟨[], .nil, .nil⟩
  | _ :: _, _ :: _, .cons ⟨v, r, h⟩ t => by
    obtain ⟨vs, r2, h2⟩ := vd_back t
    exact ⟨v :: vs, .cons r r2, .cons h h2⟩
theorem each_reads {pins : List (Addr × Obj)} {σ : L2.St} {H : Hp} {s : Shared} (I : Inv X pins σ H s) : ∀ {us : List Value} {ds : List PyData}, EachIs (Vd X.K H) us ds → EachIs (fun v b => ∃ as, Reads s.heap v b as) us ds
  | [], [], .nil => .nil
  | _ :: _, _ :: _, .cons ⟨v, r, h⟩ t => .cons (Dp.reads I _ v _ (Dq.dp _ _ h) r) (each_reads I t)
/-! ### sorted(list of data) -/
def rSortD (K : PySem.W.Frag) : List V → Hp → VK → Prop := fun xs H Q => ∃ (a : Addr) (vs : List V) (ds : List PyData) (G : Hp), xs = [V.ref a] ∧ SqL K H a vs ∧ Ex G H ∧ DqAll K G vs ds ∧ AllAlike ds ∧ Sortable ds ∧ ds.length ≤ 1000 ∧ (∀ d, d ∈ ds → d.depth ≤ 10) ∧
  ∀ p ws, H p = none → DqAll K G ws (ds.mergeSort (dataLe false id)) → Q (.ref p) (upd H p (.lst ws))
theorem call_sortedD (_ : X.calm = true) (hu : X.A.units + 65 < cLine) : CallR X (.builtin "sorted") (rSortD X.K) := by
  intro pins s σ H xs us Q I r h
  obtain ⟨a, vs, ds, G, rfl, hs, hG, hd, al, so, hz, dep, q⟩ := h
  obtain ⟨its, rv, hl, _⟩ := I.list hs
  rw [Vals.ref1 r]
  have e := each_vd rv hd
  have hal : AllAlike (ds.map id) := by rw [List.map_id]; exact al
  have hso : Sortable (ds.map id) := by rw [List.map_id]; exact so
  refine sorted_data (R := Vd X.K G) (enc := id) (bs := ds) hl.isList e (each_reads I (each_vd rv (DqAll.ex hG _ _ hd))) hal hso (Nat.le_of_lt (small1000 hz)) (fun b hb => ?_) fun out h1 h2 => ?_
  · have := dep b hb
    show X.A.units + 2 + (id b).depth < cLine
    have e : id b = b := rfl
    rw [e]
    omega
  · obtain ⟨ws, r2, hw⟩ := vd_back h2
    obtain ⟨ep, he'⟩ := PyProof.Rows.sortedAll_at s.heap its (List.toArray out)
    have hlen : ws.length ≤ sizeLine := by
      rw [r2.length, h1]
      exact Nat.le_of_lt (small1000 hz)
    exact ⟨.ref _, upd H (s.heap.objs.size + 1) (.lst ws), I.laid (t' := s.toks) (fun _ _ => PyProof.Rows.sortedAll_old) (Nat.le_succ _) ⟨hlen, out, ep, r2, he'⟩, rfl, q _ _ (I.hok.fresh (Nat.le_succ _)) hw⟩
/-! ### min(list of data) -/
theorem minD_mem : ∀ (ds : List PyData) (d : PyData), minD d ds ∈ d :: ds := by
  intro ds
  induction ds with
  | nil => intro d; exact List.mem_cons_self
  | cons e ds ih =>
    intro d
    show minD (if dataLt e d then e else d) ds ∈ d :: e :: ds
    have := ih (if dataLt e d then e else d)
    rcases List.mem_cons.mp this with q | q
    · rw [q]
      by_cases c : dataLt e d = true
      · rw [if_pos c]; simp
      · rw [if_neg c]; simp
    · exact List.mem_cons_of_mem _ (List.mem_cons_of_mem _ q)
def rMinD (K : PySem.W.Frag) : List V → Hp → VK → Prop := fun xs H Q => ∃ (a : Addr) (vs : List V) (d : PyData) (ds : List PyData) (G : Hp), xs = [V.ref a] ∧ SqL K H a vs ∧ Ex G H ∧ DqAll K G vs (d :: ds) ∧ AlikeAll (d :: ds) ∧ PyData.depthAll (d :: ds) ≤ 10 ∧
  ∀ v, Dq K G v (minD d ds) → Q v H
theorem vals_back : ∀ {vs : List V} {us : List Value} {i : Nat} {u : Value}, Vals vs us → us[i]? = some u → ∃ v, vs[i]? = some v ∧ RelV v u
  | _, _, _, _, .nil, e => by simp at e
  | _, _, 0, u, .cons r rr, e => by
    have e' := Option.some.inj e
    subst e'
    exact ⟨_, rfl, r⟩
  | _, _, i + 1, u, .cons r rr, e => vals_back (i := i) rr e
theorem call_minD (hc : X.calm = true) (hu : X.A.units + 65 < cLine) : CallR X (.builtin "min") (rMinD X.K) := by
  intro pins s σ H xs us Q I r h
  obtain ⟨a, vs, d, ds, G, rfl, hs, hG, hd, al, dep, q⟩ := h
  obtain ⟨its, rv, hl, _⟩ := I.list hs
  rw [Vals.ref1 r]
  obtain ⟨as, hr⟩ : ∃ as, ReadsAll s.heap its (d :: ds) as := by
    have e := each_readsAll (h := s.heap) (bs := d :: ds) id (each_reads I (each_vd rv (DqAll.ex hG _ _ hd)))
    rw [List.map_id] at e
    exact e
  refine min_list_data (vs := its.toArray) (as := as) (I.ok.hd hc) hl.isList (by simpa using hr) al (by omega) fun i v h' tk bs hv hrd hk => ?_
  obtain ⟨w, hw, rw_⟩ := vals_back rv (by simpa using hv)
  obtain ⟨e, he, hde⟩ := DqAll.getV hd hw
  have I2 : Inv X pins σ H { s with heap := h', toks := tk } := I.kept hk
  obtain ⟨cs, hr2⟩ := Dp.reads I2 e w v (Dq.dp _ _ (Dq.ex hG _ _ hde)) rw_
  have eq : minD d ds = e := alike_unique _ _ _ _ _ (al.1 _ (minD_mem ds d) _ (List.mem_of_getElem? he)) hrd hr2
  exact ⟨w, H, I2, rw_, q w (by rw [eq]; exact hde)⟩
/-! ### < of data -/
def rLtD (K : PySem.W.Frag) : R2 := fun x y H Q => ∃ d e, Dq K H x d ∧ Dq K H y e ∧ alike d e = true ∧ d ≠ .none ∧ d.depth ≤ 10 ∧ Q (.bl (dataLt d e)) H
theorem op_ltD (hu : X.A.units + 65 < cLine) : OpR X (compareOp .Lt) (rLtD X.K) := by
  intro pins s σ H x y v u Q I rx ry h
  obtain ⟨d, e, hd, he, al, nn, dep, q⟩ := h
  obtain ⟨as, r1⟩ := Dp.reads I d x v (Dq.dp _ _ hd) rx
  obtain ⟨bs, r2⟩ := Dp.reads I e y u (Dq.dp _ _ he) ry
  refine lt_data r1 r2 al nn ?_ ⟨.bl _, H, I, rfl, q⟩
  have := Nat.min_le_left d.depth e.depth
  omega
/-! ### an own == -/
theorem fnR_of {P : Program} {w : World} {K : PySem.W.Frag} {mg : Str → Option Value} {base : Heap} {CX : CXT} {k : Nat} {f : Addr} {fd : FuncData} {ps : List Str} {sp : Sp} (F : FnOk P w K mg base CX k f fd ps sp) (b : Binds K fd ps []) : FnR P w K mg base CX k f sp :=
  (F.raw b .nil).imp fun vs H Q E h => by rw [List.append_nil]; exact h
theorem ins_at {pins : List (Addr × Obj)} {σ : L2.St} {H : Hp} {s : Shared} {a C dx : Addr} {fs : List (Str × V)} (I : Inv X pins σ H s) (e : H a = some (.ins C dx fs)) : ∃ od, PySem.W.InstAt s.heap a (PySem.W.instObj C dx) C (some od) := by
  obtain ⟨mA, O, _⟩ := ins_get I.hok e
  obtain ⟨od, J, _⟩ := O.look
  exact ⟨od, J⟩
def rOwnEq (C : Addr) (sp : Sp) : R2 := fun x y H Q => ∃ a dx fs b dy gs, x = .ref a ∧ y = .ref b ∧ H a = some (.ins C dx fs) ∧ H b = some (.ins C dy gs) ∧ sp [x, y] H Q E0
theorem op_ownEq {x : Str} {n : Nat} {ps : List Str} {sp : Sp} (C : CalM X.prog X.w X.K X.mg X.base CX0 n x "__eq__" ps sp) (hr : Room n X.A) : OpR X (compareOp .Eq) (rOwnEq (He.ga X.K x) sp) := by
  intro pins s σ H x y v u Q I rx ry h
  obtain ⟨a, dx, fs, b, dy, gs, rfl, rfl, ha, hb, q⟩ := h
  cases (show v = Value.ref a from rx)
  cases (show u = Value.ref b from ry)
  obtain ⟨od, J⟩ := ins_at I ha
  obtain ⟨od', J'⟩ := ins_at I hb
  obtain ⟨m, hF⟩ := I.fr
  obtain ⟨fd, F, bb⟩ := C.ex
  have F' := fnR_of F bb
  have hn : PySem.W.notFirst X.K (He.ga X.K x) (.ref (He.ga X.K x)) = true := by
    unfold PySem.W.notFirst
    rw [beq_self_eq_true]
    rfl
  refine PySem.W.cmp_K (op := .Eq) (tb := .ref (He.ga X.K x)) hr.units0 hF I.ok.mod.kin J J'.type hn C.m.at_ C.m.fn ?_
  refine wpAny_mono (wpAny_call (run_fnR (us := [.ref a, .ref b]) (vs := [.ref a, .ref b]) F' hr pass0 I (.cons rfl (.cons rfl .nil)) q)) (fun w s' z => ?_) fun _ _ x => x
  obtain ⟨z', H', I', rz, qz⟩ := z
  exact cmpback rz ⟨z', H', I', rz, qz⟩
/-! ### an own len -/
def rOwnLen (C : Addr) (sp : Sp) : List V → Hp → VK → Prop := fun xs H Q => ∃ a dx fs, xs = [V.ref a] ∧ H a = some (.ins C dx fs) ∧ sp [.ref a] H (fun z H' => ∃ n : Nat, z = .int n ∧ n ≤ 1000000 ∧ Q z H') E0
theorem call_ownLen {x : Str} {n : Nat} {ps : List Str} {sp : Sp} (C : CalM X.prog X.w X.K X.mg X.base CX0 n x "__len__" ps sp) (hr : Room (n + 1) X.A) : CallR X (.builtin "len") (rOwnLen (He.ga X.K x) sp) := by
  intro pins s σ H xs us Q I r h
  obtain ⟨a, dx, fs, rfl, ha, q⟩ := h
  rw [Vals.ref1 r]
  obtain ⟨od, J⟩ := ins_at I ha
  obtain ⟨m, hF⟩ := I.fr
  obtain ⟨fd, F, bb⟩ := C.ex
  have F' := fnR_of F bb
  have hr1 : Room n X.A.in1 := Room.in1 hr
  refine PySem.W.len_K hF I.ok.mod.kin J C.m.at_ C.m.fn (wpAny_mono (wpAny_call (run_at (us := [.ref a]) (ws := [V.ref a]) F' hr1 I.env0.in1 pass0 I (.cons rfl .nil) q)) (fun w s' z => ?_) fun _ _ x => x)
  obtain ⟨z', H', I', rz, n, en, hn, qz⟩ := z
  subst en
  obtain ⟨t, e⟩ := (show ∃ t, w = Value.int n t from rz)
  cases e
  exact ⟨⟨by omega, by omega⟩, .int n, H', I'.tok _, ⟨_, rfl⟩, qz⟩
end
end Z
set_option Elab.async false
set_option linter.all false
set_option maxRecDepth 100000
set_option maxHeartbeats 1000000
namespace Z
open PySem PySem.Spec PyProof.Rows L2
/-! ### enumerate(tuple) -/
/-- the tuple at a, each item in a new pair -/
def IteT (K : PySem.W.Frag) (a : Addr) : It :=
  ⟨fun i H => ∃ (xs : List V) (x : V), SqT K H a xs ∧ xs[i]? = some x, fun i H v H' => ∃ T x, v = .ref T ∧ H T = none ∧ H' = upd H T (.tup [.int (i : Nat), x]) ∧ ∀ xs, SqT K H a xs → xs[i]? = some x, fun i H => ∃ xs : List V, SqT K H a xs ∧ xs.length = i⟩
theorem turn_enumT {P : Program} {w : World} {K : PySem.W.Frag} {elts : List Expr} {kk : Nat} {tpos : Pos} (a e it : Addr) (hai : a ≠ it) (hae : a ≠ e) :
    Turn P w K (.Tuple elts kk tpos) (IteT K a) [e, it] e (fun i h => (∃ old, IsEnum h e it ((i : Nat) : Int) old) ∧ h.IsTupleIter it a i ∧ e ≠ it) where
  mem := by simp
  obj := fun i h st b hb => by
    obtain ⟨⟨old, he⟩, ⟨o, ho, hc, hd⟩, _⟩ := st
    have e' : b = e ∨ b = it := by simpa using hb
    rcases e' with z | z
    · rw [z]; exact ⟨_, he, fun v q => nomatch q⟩
    · rw [z]; exact ⟨o, ho, fun v q => by rw [hd] at q; cases q⟩
  keep := fun i h h' st k => let ⟨⟨old, he⟩, hi, hne⟩ := st; ⟨⟨old, k e (by simp) _ he⟩, hi.at fun o q => k it (by simp) o q, hne⟩
  item := by
    intro X hP hw hK hc i pins s σ H E I hf st hg
    subst hP hw hK
    obtain ⟨⟨old, he⟩, hit, hne⟩ := st
    obtain ⟨xs, x, hq, hx⟩ := hg
    obtain ⟨its, rv, p, hz⟩ := I.tuple hq
    obtain ⟨u, hu, ru⟩ := rv.get hx
    have hel : e < s.heap.objs.size := Heap.lt_size he
    have hil : it < s.heap.objs.size := by obtain ⟨_, q, _⟩ := hit; exact Heap.lt_size q
    have D := Draws.tuple (prog := X.prog) (w := X.w) (A := X.A.in1) (I.ok.hd hc) it a hai its.toArray
    have hlt : i < its.toArray.size := by
      have := (List.getElem?_eq_some_iff.mp hu).1
      simpa using this
    refine wpAny_pyNext_enum_itemD D he ⟨hit, p⟩ hlt hne (by simp [hne, Ne.symm hae]) fun x' h' tk hx' ho st' hT hsz hk => ?_
    have ex : x' = u := by
      have q1 : its.toArray[i]? = some x' := hx'
      have q2 : its.toArray[i]? = some u := by simpa using hu
      rw [q1] at q2
      exact Option.some.inj q2
    subst ex
    refine ⟨_, rfl, wpAny_letOwnedTupleGo_enum (s := { s with heap := h', toks := tk + 1 }) ho fun h'' he' sb => ?_⟩
    have hT2 : h''.get? s.heap.objs.size = some { cls := .type "tuple", data := .seq #[.int i tk, x'] } := (sb.2 _ (Nat.ne_of_gt hel)).trans hT
    have new : ObjOk X.prog X.w (upd H s.heap.objs.size (.tup [.int (i : Nat), x])) h'' s.heap.objs.size (.tup [.int (i : Nat), x]) :=
      ⟨by show 2 ≤ sizeLine; decide, [.int i tk, x'], .cons ⟨_, rfl⟩ (.cons ru .nil), ⟨_, hT2, rfl, _, rfl⟩⟩
    have I1 : Inv X pins σ (upd H s.heap.objs.size (.tup [.int (i : Nat), x])) { s with heap := h'', toks := tk + 1 } :=
      I.turnedNew (ch := [e, it]) (fun b ob hb q => (sb.2 b (fun z => hb (by simp [z]))).trans (hk b ob (fun z => hb (by simp [z])) (fun z => hb (by simp [z])) q)) hf (Nat.le_refl _) new
    refine ⟨.ref s.heap.objs.size, _, I1, rfl, ⟨_, x, rfl, I.hok.fresh (Nat.le_refl _), rfl, fun ys hy => by rw [I.tuple_inj hy hq]; exact hx⟩, ⟨⟨x', ?_⟩, st'.1.at fun o q => (sb.2 it (Ne.symm hne)).trans q, hne⟩, fun b hb => ?_⟩
    · have e1 : ((i + 1 : Nat) : Int) = (i : Int) + 1 := by omega
      rw [e1]; exact he'
    · have hb' : b < s.heap.objs.size := by
        have e' : b = e ∨ b = it := by simpa using hb
        rcases e' with z | z
        · rw [z]; exact hel
        · rw [z]; exact hil
      rw [upd_ne (Nat.ne_of_lt hb')]
      exact (hf b hb).1
  done := by
    intro X hP hw hK hc i pins s σ H E I hf st hg
    subst hP hw hK
    obtain ⟨⟨old, he⟩, hit, hne⟩ := st
    obtain ⟨xs, hq, hx⟩ := hg
    obtain ⟨its, rv, p, hz⟩ := I.tuple hq
    obtain ⟨f0, f1, f2, f3, f4, f5⟩ := hf it (by simp)
    have hl := rv.length
    have D := Draws.tuple (prog := X.prog) (w := X.w) (A := X.A.in1) (I.ok.hd hc) it a hai its.toArray
    have e : i = its.toArray.size := by simp; omega
    subst e
    exact wpAny_pyNext_enum_endD D he ⟨hit, p⟩ fun h' eb => ⟨rfl, I.turned (t' := s.toks) (fun b o hb q => eb b o hb q) f0 f1 f3 f4 f5⟩
  self := fun A i s Q E st h => let ⟨⟨_, he⟩, _⟩ := st; wpAny_pyIter_enum he h
set_option maxHeartbeats 1000000 in
theorem meets_enumerate_newB1 {v : Value} {o : Obj} {H : Heap → Prop} (B : Begins v o H) :
    Meets (Builtin.«enumerate.__new__» ⟨[.type "enumerate", v], []⟩) (fun _ R s => H s.heap ∧
      R (.ok (.ret (.ref (s.heap.push o).objs.size))) { s with heap := (s.heap.push o).push { cls := .type "enumerate", data := .fields #[.none, .bool false, .ref s.heap.objs.size, rawInt 0, .none, .none] } }) :=
  .of_wp fun prog w A R s h => by
    obtain ⟨hp, g, d, tk, os⟩ := s; obtain ⟨h1, h⟩ := h
    have hsub := sub_enumerate
    have q1 : ∀ {A' : Around} {E : Value → Shared → Prop} {Q : Value → Shared → Prop}, Q (.ref hp.objs.size) ⟨hp.push o, g, d, tk, os⟩ → wpAny (model prog w) A' (pyIter v) Q E ⟨hp, g, d, tk, os⟩ :=
      fun q => B.iter prog w _ _ ⟨hp, g, d, tk, os⟩ _ h1 q
    wp_walk using q1
    refine wpAny_stack_any fun st => wpAny_pure ?_
    split
    · rename_i c _ _ _ _ _
      cases (c == Value.type "enumerate")
      · wp_walk using q1
        exact ⟨_, rfl, h⟩
      · wp_walk using q1
        exact ⟨_, rfl, h⟩
    · wp_walk using q1
      exact ⟨_, rfl, h⟩
theorem enum_begins1 {prog : Program} {w : World} {A : Around} {E : Value → Shared → Prop} {s : Shared} {v : Value} {o : Obj} {H : Heap → Prop} {Q : Value → Shared → Prop} (B : Begins v o H) (h1 : H s.heap)
    (h : ∀ h', IsEnum h' (s.heap.objs.size + 1) s.heap.objs.size 0 .none → h'.get? s.heap.objs.size = some o → h'.objs.size = s.heap.objs.size + 2 →
      (∀ b o, s.heap.get? b = some o → h'.get? b = some o) → Q (.ref (s.heap.objs.size + 1)) { s with heap := h' }) :
    wpAny (model prog w) A (call (.type "enumerate") [v]) Q E s := by
  refine callType_new F.called_enumerate (by decide) (F.typeCall_enumerate_1 _) (F.newCall_enumerate_1 _) (fun obj => F.args_object_init_2 obj _) F.entry_enumerate_new
    (meets_enumerate_newB1 B) ⟨h1, ?_⟩
  have hz : (s.heap.push o).objs.size = s.heap.objs.size + 1 := Heap.size_push ..
  show _ ∧ _
  rw [hz]
  have he : IsEnum ((s.heap.push o).push { cls := .type "enumerate", data := .fields #[.none, .bool false, .ref s.heap.objs.size, rawInt 0, .none, .none] }) (s.heap.objs.size + 1) s.heap.objs.size 0 .none := by
    have := Heap.get?_push_size (s.heap.push o) (o := { cls := .type "enumerate", data := .fields #[.none, .bool false, .ref s.heap.objs.size, rawInt 0, .none, .none] }) rfl
    rw [hz] at this; exact this
  refine ⟨⟨_, he, rfl⟩, h _ he (Heap.get?_push_of_some _ (Heap.get?_push_size _ B.free)) (by rw [Heap.size_push, hz]) fun b o x => Heap.get?_push_of_some _ (Heap.get?_push_of_some _ x)⟩
def iEnumT (K : PySem.W.Frag) (ta : TA) : TI := fun σ H R => ta σ H fun vs H1 => ∃ a xs, vs = [.ref a] ∧ SqT K H1 a xs ∧ R (IteT K a) H1
theorem pi_enumT {X : Cx} {e : Expr} {ta : TA} {p pos tpos : Pos} {elts : List Expr} {kk : Nat} (hg : Gl X "enumerate") (hm : X.mg "enumerate" = none) (ha : PA X [e] ta) (hs : starEach [e] X.env = [(false, eval e X.env)] := by rfl) :
    PI X (.Tuple elts kk tpos) (.Call (.Name "enumerate" p) [e] [] pos) (iEnumT X.K ta) := by
  refine ⟨fun pins s σ H R I h => ?_⟩
  refine Call_ (ld_blt I hg hm boot_enumerate (PyProof.Rows.callWith_type1 (thn (ha.run pos pins s σ H _ I h) fun us s1 ⟨vs, H1, I1, r1, q1⟩ => ?_) hs rfl))
  obtain ⟨a, xs, ex, hq, q⟩ := q1
  subst ex
  cases r1 with
  | cons r rr =>
    cases rr
    cases r
    obtain ⟨its, rv, p', hz⟩ := I1.tuple hq
    have ha : a < s1.heap.objs.size := by
      obtain ⟨o, ho, _⟩ := p'
      exact Heap.lt_size ho
    refine enum_begins1 (begins_tuple a its.toArray) p' fun h' he hit hsz hk => wpAny_pyIter_enum he ?_
    have I2 : Inv X pins σ H1 { s1 with heap := h' } := I1.kept (t' := s1.toks) hk
    refine ⟨s1.heap.objs.size + 1, [s1.heap.objs.size + 1, s1.heap.objs.size], _, _, H1, rfl, I2, turn_enumT a (s1.heap.objs.size + 1) s1.heap.objs.size (Nat.ne_of_lt ha) (Nat.ne_of_lt (Nat.lt_succ_of_lt ha)), ⟨⟨.none, he⟩, ⟨_, hit, rfl, rfl⟩, Nat.succ_ne_self _⟩, fun b hb => ?_, q⟩
    have e' : b = s1.heap.objs.size + 1 ∨ b = s1.heap.objs.size := by simpa using hb
    have hle : s1.heap.objs.size ≤ b := by
      rcases e' with z | z
      · rw [z]; exact Nat.le_add_right _ _
      · rw [z]; exact Nat.le_refl _
    exact I1.fpOk hle (I1.hok.fresh hle)
theorem walk_enumT {K : PySem.W.Frag} {a : Addr} {xs : List V} : Walk (IteT K a) xs.length (fun H => SqT K H a xs) (YPair (fun i => some (.int (i : Nat))) (fun i => xs[i]?)) := by
  refine ⟨fun i _ hi q => ⟨xs, xs[i], q, by simp [hi]⟩, fun _ q => ⟨xs, q, rfl⟩, fun i H v H' _ q y => ?_⟩
  obtain ⟨T, x, h1, h2, h3, h4⟩ := y
  exact ⟨T, .int (i : Nat), x, h1, h2, h3, rfl, h4 xs q⟩
/-- enumerate(e), e a list or a tuple -/
def iEnumS (K : PySem.W.Frag) (te : TE) : TI := fun σ H R => iEnum K (tCons te tNil) σ H R ∨ iEnumT K (tCons te tNil) σ H R
theorem pi_enumS {X : Cx} {e : Expr} {te : TE} {p pos tpos : Pos} {elts : List Expr} {kk : Nat} (hg : Gl X "enumerate") (hm : X.mg "enumerate" = none) (he : PE X e te) (hs : starEach [e] X.env = [(false, eval e X.env)] := by rfl)
    (hs2 : starEach [e] X.env = (false, eval e X.env) :: starEach [] X.env := by rfl) : PI X (.Tuple elts kk tpos) (.Call (.Name "enumerate" p) [e] [] pos) (iEnumS X.K te) :=
  pi_or (pi_enum hg hm (L2.pa_cons he L2.pa_nil hs2) hs) (pi_enumT hg hm (L2.pa_cons he L2.pa_nil hs2) hs)
section
variable {K : PySem.W.Frag} {bc cs : List Cell} {Γ : List Tv}
def enD (ds : List PyData) : List PyData := ds.mapIdx fun i d => .tuple [.int (i : Nat), d]
theorem enD_len {ds : List PyData} : (enD ds).length = ds.length := by simp [enD]
theorem enD_at {ds : List PyData} {i : Nat} {d : PyData} (h : ds[i]? = some d) : (enD ds)[i]? = some (.tuple [.int (i : Nat), d]) := by simp [enD, h]
theorem enD_get {ds : List PyData} {i : Nat} {d : PyData} (h : (enD ds)[i]? = some d) : ∃ x, ds[i]? = some x ∧ d = .tuple [.int (i : Nat), x] := by
  simp only [enD, List.getElem?_mapIdx, Option.map_eq_some_iff] at h
  obtain ⟨x, h1, h2⟩ := h
  exact ⟨x, h1, h2.symm⟩
theorem si_pair {M bs ls : List Addr} {H1 : Hp} {vs : List V} {ds : List PyData} (ha : DqAll K (hid (ls ++ (bs ++ M)) H1) vs ds) : ∀ i H2 x H3, i < (enD ds).length → Ex (hid (ls ++ (bs ++ M)) H1) H2 → YPair (fun i => some (.int (i : Nat))) (fun i => vs[i]?) i H2 x H3 →
    Ex H2 H3 ∧ ∃ d, (enD ds)[i]? = some d ∧ ∀ W', Ex (hid (ls ++ (bs ++ M)) H1) (hid W' H2) → (∀ a, a ∈ W' → H2 a ≠ none) → Dq K (hid W' H3) x d := by
  intro i H2 x H3 hi _ y
  obtain ⟨T, x1, y1, rfl, hT, rfl, e1, e2⟩ := y
  obtain ⟨d, hd, dp⟩ := DqAll.getV ha e2
  have ex := ex_upd (o := .tup [x1, y1]) hT
  refine ⟨ex, _, enD_at hd, fun W' e al => ?_⟩
  have nT : T ∉ W' := fun z => al T z hT
  have g : Ex (hid W' H2) (hid W' (upd H2 T (.tup [x1, y1]))) := hid_sub (fun _ h => h) fun b o _ q => ex b o q
  cases e1
  exact .tup (by rw [hid_of nT, upd_same]) (.cons (.int _) (.cons (Dq.ex g _ _ (Dq.ex e _ _ dp)) .nil))
theorem si_enumL {te : TE} {ds : List PyData} (h : Pn K bc cs Γ te (· = .d (.list ds))) : Si K bc cs Γ (iEnumS K te) (· = enD ds) := fun M bs ls σ H S R q => .inl (h M bs ls σ H S _ fun t v H1 ht S1 k1 hv => by
  subst ht
  cases hv with
  | lst hs ha =>
    rename_i a vs
    have hl := DqAll.len ha
    exact ⟨_, vs, rfl, SqL.of (hid_ex _ _ hs), q _ _ H1 _ _ rfl S1 k1 (by rw [enD_len, ← hl]; exact walk_enum) (fun H2 e => SqL.of (e _ _ hs)) (si_pair ha)⟩)
theorem si_enumT {te : TE} {ds : List PyData} (h : Pn K bc cs Γ te (· = .d (.tuple ds))) : Si K bc cs Γ (iEnumS K te) (· = enD ds) := fun M bs ls σ H S R q => .inr (h M bs ls σ H S _ fun t v H1 ht S1 k1 hv => by
  subst ht
  cases hv with
  | tup hs ha =>
    rename_i a vs
    have hl := DqAll.len ha
    exact ⟨_, vs, rfl, SqT.of (hid_ex _ _ hs), q _ _ H1 _ _ rfl S1 k1 (by rw [enD_len, ← hl]; exact walk_enumT) (fun H2 e => SqT.of (e _ _ hs)) (si_pair ha)⟩)
end
/-! ### list(d.values()) -/
def valuesO (p d : Addr) : HO := .ext fun h => h.IsValuesView p d
theorem valuesO_ok {P : Program} {w : World} {H : Hp} {h : Heap} {p d : Addr} (e : h.get? p = some { cls := .type "dict_values", data := .fields #[.ref d] }) : ObjOk P w H h p (valuesO p d) :=
  ⟨⟨_, e, rfl, rfl⟩, ⟨_, e⟩, fun h1 h2 x k => let ⟨o, ho, r⟩ := x; ⟨o, k o ho, r⟩⟩
def rValuesK : V → List V → Hp → VK → Prop := fun x xs H Q => ∃ (a : Addr) (kvs : List (Key × V)), x = .ref a ∧ xs = [] ∧ H a = some (.dK kvs) ∧ ∀ p, H p = none → Q (.ref p) (upd H p (valuesO p a))
theorem mt_values {X : Cx} : MtR X "dict.values" rValuesK := by
  intro pins s σ H x xs v us Q I rx rxs h
  obtain ⟨a, kvs, rfl, rfl, ha, q⟩ := h
  cases rx
  cases rxs
  obtain ⟨z, lo, vs, rk, hd⟩ := (show ObjOk X.prog X.w H s.heap a (.dK kvs) from I.hok a _ ha)
  have hf : H s.heap.objs.size = none := I.hok.fresh (Nat.le_refl _)
  exact call_meetsIn F.slot_dict_values hd.typeIs F.entry_dict_values (F.args_dict_values_1 _) (meets_dict_values (mixKind X.prog X.w) a lo) ⟨⟨vs, hd⟩,
    .ref s.heap.objs.size, upd H s.heap.objs.size (valuesO s.heap.objs.size a), I.laid (t' := s.toks) (fun b u e => Heap.get?_push_of_some _ e) (Nat.le_refl _) (valuesO_ok (Heap.get?_push_size _ rfl)), rfl, q _ hf⟩
def rListView : List V → Hp → VK → Prop := fun xs H Q => ∃ p d kvs, xs = [V.ref p] ∧ H p = some (valuesO p d) ∧ H d = some (.dK kvs) ∧ ∀ q, H q = none → Q (.ref q) (upd H q (.lst (kvs.map (·.2))))
theorem kv_at : ∀ {kvs : List (Key × V)} {vs : List (Key × Value)} {i : Nat} {k : Key} {u : Value}, KV kvs vs → vs[i]? = some (k, u) → ∃ v, (kvs.map (·.2))[i]? = some v ∧ RelV v u
  | _, _, _, _, _, .nil, e => by simp at e
  | _, _, 0, k, u, .cons r rr, e => by
    have e' := Option.some.inj e
    subst e'
    exact ⟨_, rfl, r.2⟩
  | _, _, i + 1, k, u, .cons r rr, e => kv_at (i := i) rr e
theorem call_list_view {X : Cx} (hc : X.calm = true) : CallR X (.type "list") rListView := by
  intro pins s σ H xs us Q I r h
  obtain ⟨p, d, kvs, e, hp, hk, q⟩ := h
  subst e
  obtain ⟨u, eu, rx⟩ := vals1 r
  subst eu
  obtain rfl : u = Value.ref p := rx
  have hv : s.heap.IsValuesView p d := (I.hok p _ hp).1
  obtain ⟨z, lo, vs, rk, hd⟩ := (show ObjOk X.prog X.w H s.heap d (.dK kvs) from I.hok d _ hk)
  obtain ⟨ep, hat⟩ := hd.dictAt
  have hl : kvs.length = vs.length := Paired.length rk
  refine PySem.W.kdl_call (PySem.W.kdl_values (knd := mixKind X.prog X.w) (kvs := vs) (ep := ep)) (I.ok.hd hc) ⟨hv, hat⟩ (by rw [← hl]; exact z) fun h' tk acc' c' hkeep hS hacc => ?_
  refine ⟨.ref s.heap.objs.size, upd H s.heap.objs.size (.lst (kvs.map (·.2))), I.laid hkeep (Nat.le_refl _) (show ObjOk X.prog X.w _ _ _ (.lst (kvs.map (·.2))) from ⟨?_, acc'.toList, c', ?_, ?_⟩), rfl, q _ (I.hok.fresh (Nat.le_refl _))⟩
  · rw [List.length_map]; exact z
  · have el : acc'.toList.length = acc'.size := by simp
    refine vals_of_at (by rw [List.length_map, el, hacc.1, hl]) fun j x w h1 h2 => ?_
    obtain ⟨k, hky⟩ := hacc.2 j w (by rw [← Array.getElem?_toList]; exact h2)
    obtain ⟨v, hv2, rv⟩ := kv_at rk hky
    rw [h1] at hv2
    cases hv2
    exact rv
  · rw [Array.toArray_toList]; exact hS
/-- list(d.values()) -/
abbrev tListVals (K : PySem.W.Frag) (td : TE) : TE := tCB rListView (tCons (tBM0 K "dict" rValuesK td) tNil)
end Z
set_option Elab.async false
set_option linter.all false
set_option maxRecDepth 100000
set_option maxHeartbeats 1000000
namespace Z
open PySem PySem.Spec PyProof.Rows L2
/-! ### the things, as data -/
abbrev T3 : Type := Nat × Nat × Nat
abbrev iD (n : Nat) : PyData := .int (n : Int)
def isD (l : List Nat) : List PyData := l.map iD
def tD (t : T3) : PyData := .tuple [iD t.1, iD t.2.1, iD t.2.2]
def bk (β : List Nat) (i : Nat) : Nat := β.getD i 0
theorem isD_at {l : List Nat} {i : Nat} (h : i < l.length) : (isD l)[i]? = some (iD (bk l i)) := by
  unfold isD bk
  rw [List.getElem?_map, List.getElem?_eq_getElem h, List.getD_eq_getElem?_getD, List.getElem?_eq_getElem h]
  rfl
theorem isD_len {l : List Nat} : (isD l).length = l.length := by simp [isD]
theorem isD_get {l : List Nat} {i : Nat} {d : PyData} (h : (isD l)[i]? = some d) : i < l.length ∧ d = iD (bk l i) := by
  have hi : i < l.length := by
    have := (List.getElem?_eq_some_iff.mp h).1
    rwa [isD_len] at this
  rw [isD_at hi] at h
  exact ⟨hi, (Option.some.inj h).symm⟩
theorem atI_nat' {α : Type} {xs : List α} {i : Nat} {x : α} (h : xs[i]? = some x) : atI xs (i : Int) = some x := by
  have hi := (List.getElem?_eq_some_iff.mp h).1
  unfold atI ixN
  rw [if_pos (by omega), if_pos (by omega), Int.toNat_natCast]
  exact h
theorem isD_atI {l : List Nat} {i : Nat} (h : i < l.length) : atI (isD l) (i : Int) = some (iD (bk l i)) := atI_nat' (isD_at h)
theorem ixN_nat {n i : Nat} (h : i < n) : ixN n (i : Int) = some i := by
  unfold ixN
  rw [if_pos (by omega), if_pos (by omega)]
  simp
/-- back ties: each many's own, and back again -/
structure Bks (β : List Nat) : Prop where
  lo : 2 ≤ β.length
  hi : β.length ≤ 4
  lt : ∀ i, i < β.length → bk β i < β.length
  inv : ∀ i, i < β.length → bk β (bk β i) = i
/-- within -/
def In3 (m : Nat) (t : T3) : Prop := t.1 < m ∧ t.2.1 < m ∧ t.2.2 < m
def readings (b : Nat → Nat) (t : T3) : List T3 := [t, (t.2.2, b t.2.1, t.1), (b t.1, t.2.2, t.2.1), (t.2.1, b t.2.2, b t.1), (b t.2.2, t.1, b t.2.1), (b t.2.1, b t.1, b t.2.2)]
def allT (m : Nat) : List T3 := (List.range m).flatMap fun p => (List.range m).flatMap fun q => (List.range m).map fun r => (p, q, r)
def barL (m : Nat) (B : T3 → Bool) : List T3 := (allT m).filter B
def clo (b : Nat → Nat) (L : List T3) (t : T3) : Bool := L.any fun x => (readings b x).contains t
def letD (m : Nat) (B : T3 → Bool) : PyData := .list ((List.range m).map fun p => .list ((List.range m).map fun q => .list ((List.range m).map fun r => .bool (!B (p, q, r)))))
def gridD (m : Nat) (B : T3 → Bool) : PyData := .tuple ((List.range m).map fun p => .tuple ((List.range m).map fun q => .tuple ((List.range m).map fun r => .bool (B (p, q, r)))))
def barD (m : Nat) (B : T3 → Bool) : List PyData := (barL m B).map tD
def worldD (β : List Nat) (B : T3 → Bool) : PyData := .tuple [.list (isD β), letD β.length B]
theorem mem_allT {m : Nat} {t : T3} : t ∈ allT m ↔ In3 m t := by
  obtain ⟨p, q, r⟩ := t
  simp only [allT, In3, List.mem_flatMap, List.mem_map, List.mem_range, Prod.mk.injEq]
  constructor
  · rintro ⟨a, ha, b, hb, c, hc, rfl, rfl, rfl⟩
    exact ⟨ha, hb, hc⟩
  · rintro ⟨ha, hb, hc⟩
    exact ⟨p, ha, q, hb, r, hc, rfl, rfl, rfl⟩
/-! ### plain data -/
mutual
def nb : PyData → Bool
  | .none => true
  | .bool _ => false
  | .int _ => true
  | .str _ => false
  | .list xs => nbAll xs
  | .tuple xs => nbAll xs
  | .dict _ => false
def nbAll : List PyData → Bool
  | [] => true
  | x :: xs => nb x && nbAll xs
end
mutual
theorem eqv_iff : ∀ d e : PyData, nb d = true → nb e = true → (PyData.eqv d e = true ↔ d = e)
  | .none, .none, _, _ => by simp [PyData.eqv]
  | .none, .bool _, _, h => by simp [nb] at h
  | .none, .int _, _, _ => by simp [PyData.eqv]
  | .none, .str _, _, _ => by simp [PyData.eqv]
  | .none, .list _, _, _ => by simp [PyData.eqv]
  | .none, .tuple _, _, _ => by simp [PyData.eqv]
  | .none, .dict _, _, h => by simp [nb] at h
  | .bool _, _, h, _ => by simp [nb] at h
  | .str _, _, h, _ => by simp [nb] at h
  | .dict _, _, h, _ => by simp [nb] at h
  | .int _, .none, _, _ => by simp [PyData.eqv]
  | .int _, .bool _, _, h => by simp [nb] at h
  | .int _, .int _, _, _ => by simp [PyData.eqv]
  | .int _, .str _, _, _ => by simp [PyData.eqv]
  | .int _, .list _, _, _ => by simp [PyData.eqv]
  | .int _, .tuple _, _, _ => by simp [PyData.eqv]
  | .int _, .dict _, _, h => by simp [nb] at h
  | .list _, .none, _, _ => by simp [PyData.eqv]
  | .list _, .bool _, _, h => by simp [nb] at h
  | .list _, .int _, _, _ => by simp [PyData.eqv]
  | .list _, .str _, _, _ => by simp [PyData.eqv]
  | .list xs, .list ys, h, g => by
    have := eqvAll_iff xs ys (by simpa [nb] using h) (by simpa [nb] using g)
    simpa [PyData.eqv] using this
  | .list _, .tuple _, _, _ => by simp [PyData.eqv]
  | .list _, .dict _, _, h => by simp [nb] at h
  | .tuple _, .none, _, _ => by simp [PyData.eqv]
  | .tuple _, .bool _, _, h => by simp [nb] at h
  | .tuple _, .int _, _, _ => by simp [PyData.eqv]
  | .tuple _, .str _, _, _ => by simp [PyData.eqv]
  | .tuple _, .list _, _, _ => by simp [PyData.eqv]
  | .tuple xs, .tuple ys, h, g => by
    have := eqvAll_iff xs ys (by simpa [nb] using h) (by simpa [nb] using g)
    simpa [PyData.eqv] using this
  | .tuple _, .dict _, _, h => by simp [nb] at h
theorem eqvAll_iff : ∀ ds es : List PyData, nbAll ds = true → nbAll es = true → (PyData.eqvAll ds es = true ↔ ds = es)
  | [], [], _, _ => by simp [PyData.eqvAll]
  | [], _ :: _, _, _ => by simp [PyData.eqvAll]
  | _ :: _, [], _, _ => by simp [PyData.eqvAll]
  | d :: ds, e :: es, h, g => by
    simp only [nbAll, Bool.and_eq_true] at h g
    have h1 := eqv_iff d e h.1 g.1
    have h2 := eqvAll_iff ds es h.2 g.2
    simp [PyData.eqvAll, h1, h2]
end
theorem eqv_ne {d e : PyData} (h : nb d = true) (g : nb e = true) (n : d ≠ e) : PyData.eqv d e = false := by
  cases q : PyData.eqv d e with
  | false => rfl
  | true => exact absurd ((eqv_iff d e h g).mp q) n
theorem eqv_self {d : PyData} (h : nb d = true) : PyData.eqv d d = true := (eqv_iff d d h h).mpr rfl
theorem nbAll_of : ∀ {ds : List PyData}, (∀ d, d ∈ ds → nb d = true) → nbAll ds = true
  | [], _ => rfl
  | d :: ds, h => by
    simp only [nbAll, Bool.and_eq_true]
    exact ⟨h d List.mem_cons_self, nbAll_of fun e m => h e (List.mem_cons_of_mem _ m)⟩
/-- flat enough to be compared -/
def Fl (n : Nat) (d : PyData) : Prop := d.canLay0 = true ∧ d.depth ≤ n
theorem Fl.sh {n : Nat} {d : PyData} (h : Fl n d) (hn : n ≤ 64) : SeqAt.shaped d = true := by
  unfold SeqAt.shaped
  rw [h.1, decide_eq_true (Nat.le_trans h.2 hn)]
  rfl
theorem fl_all {n : Nat} : ∀ {ds : List PyData}, (∀ d, d ∈ ds → Fl n d) → PyData.canLayAll0 ds = true ∧ PyData.depthAll ds ≤ n
  | [], _ => ⟨rfl, Nat.zero_le _⟩
  | d :: ds, h => by
    have h1 := h d List.mem_cons_self
    have h2 := fl_all (n := n) (ds := ds) fun e m => h e (List.mem_cons_of_mem _ m)
    simp only [PyData.canLayAll0, PyData.depthAll, Bool.and_eq_true]
    exact ⟨⟨h1.1, h2.1⟩, Nat.max_le.mpr ⟨h1.2, h2.2⟩⟩
theorem fl_list {n : Nat} {ds : List PyData} (h : ∀ d, d ∈ ds → Fl n d) : Fl (n + 1) (.list ds) := by
  have := fl_all h
  exact ⟨by simpa [PyData.canLay0] using this.1, by simp only [PyData.depth]; omega⟩
theorem fl_tup {n : Nat} {ds : List PyData} (h : ∀ d, d ∈ ds → Fl n d) : Fl (n + 1) (.tuple ds) := by
  have := fl_all h
  exact ⟨by simpa [PyData.canLay0] using this.1, by simp only [PyData.depth]; omega⟩
theorem fl_int {n : Nat} {i : Int} : Fl n (.int i) := ⟨rfl, Nat.zero_le _⟩
theorem fl_bool {n : Nat} {i : Bool} : Fl n (.bool i) := ⟨rfl, Nat.zero_le _⟩
theorem fl_none {n : Nat} : Fl n .none := ⟨rfl, Nat.zero_le _⟩
theorem sh_int {i : Int} : SeqAt.shaped (.int i) = true := (fl_int (n := 0)).sh (by decide)
theorem isD_mem {l : List Nat} {d : PyData} (h : d ∈ isD l) : ∃ i, d = iD i := by
  obtain ⟨i, _, rfl⟩ := List.mem_map.mp h
  exact ⟨i, rfl⟩
theorem fl_is (l : List Nat) : Fl 1 (.list (isD l)) := fl_list fun d h => by
  obtain ⟨i, rfl⟩ := isD_mem h
  exact fl_int
theorem fl_isT (l : List Nat) : Fl 1 (.tuple (isD l)) := fl_tup fun d h => by
  obtain ⟨i, rfl⟩ := isD_mem h
  exact fl_int
theorem nb_is (l : List Nat) : nbAll (isD l) = true := nbAll_of fun d h => by
  obtain ⟨i, rfl⟩ := isD_mem h
  rfl
theorem fl_t (t : T3) : Fl 1 (tD t) := fl_tup fun d h => by
  simp [tD] at h
  rcases h with rfl | rfl | rfl <;> exact fl_int
theorem nb_t (t : T3) : nb (tD t) = true := rfl
theorem tD_inj {t u : T3} (h : tD t = tD u) : t = u := by
  obtain ⟨a, b, c⟩ := t
  obtain ⟨d, e, f⟩ := u
  simp only [tD, PyData.tuple.injEq, List.cons.injEq, PyData.int.injEq, and_true] at h
  obtain ⟨h1, h2, h3⟩ := h
  simp only [Prod.mk.injEq]
  omega
theorem eqv_int {i j : Int} : PyData.eqv (.int i) (.int j) = decide (i = j) := by
  cases q : decide (i = j) with
  | true => exact (eqv_iff _ _ rfl rfl).mpr (by rw [of_decide_eq_true q])
  | false =>
    refine eqv_ne rfl rfl fun e => ?_
    injection e with e
    rw [e] at q
    simp at q
/-! ### objects -/
abbrev cT (K : PySem.W.Frag) : Addr := He.ga K "Ties"
abbrev cC (K : PySem.W.Frag) : Addr := He.ga K "Company"
abbrev cB (K : PySem.W.Frag) : Addr := He.ga K "Book"
def anyS : Sm := ⟨fun _ _ => True, fun _ _ => trivial⟩
abbrev tiesN (β : List Nat) : List (Str × Tv) := [("backs", .d (.tuple (isD β))), ("many", .d (iD β.length))]
def tiesS (K : PySem.W.Frag) (β : List Nat) : Sm := insS K (cT K) (tiesN β)
/-! ### the hand -/
def handL (c : List Int) (i : Nat) (r t : Int) : List PyData := [.list (c.map .int), iD i, .int r, .int t]
def handC (K : PySem.W.Frag) : Cell := ⟨fun H o => ∃ c i r t, (lstC K (handL c i r t)).P H o, fun e ⟨c, i, r, t, h⟩ => ⟨c, i, r, t, (lstC K _).up e h⟩, fun ⟨_, _, _, _, h⟩ => (lstC K _).nt h⟩
section
variable {K : PySem.W.Frag} {bc cs : List Cell} {Γ : List Tv} {E : XK} {N : List Cell → List Cell → List Tv → Prop} {R : List Cell → Rv → Prop} {X : Xv → Prop}
theorem tr_hand {ts : TS} {R' : Rv → Prop} (h : ∀ c i r t, Tr K [lstC K (handL c i r t)] cs Γ E ts (fun _ _ _ => False) (fun b v => (∃ c i r t, b = [lstC K (handL c i r t)]) ∧ R' v) X) : Tr K [handC K] cs Γ E ts N (fun b v => b = [handC K] ∧ R' v) X := fun M bs ls σ H S D q r x => by
  obtain ⟨a, rfl⟩ := one_base S.base
  obtain ⟨⟨o, ho, c, i, rr, t, hP⟩, _⟩ := S.base
  have S' : St K [lstC K (handL c i rr t)] cs Γ M [a] ls σ H := ⟨S.nd, S.dis, S.old, ⟨⟨o, ho, hP⟩, trivial⟩, S.cell, S.env⟩
  refine h c i rr t M [a] ls σ H S' D (fun _ _ _ _ _ _ n => n.elim) (fun b v w H' hv o' cb k hh => ?_) x
  obtain ⟨⟨c', i', r', t', rfl⟩, hr⟩ := hv
  refine r [handC K] v w H' ⟨rfl, hr⟩ o' ?_ k hh
  obtain ⟨⟨o2, h2, h3⟩, _⟩ := cb
  exact ⟨⟨o2, h2, c', i', r', t', h3⟩, trivial⟩
end
end Z
set_option Elab.async false
set_option linter.all false
set_option maxRecDepth 100000
set_option maxHeartbeats 1000000
namespace Z
open PySem PySem.Spec PyProof.Rows L2
open PySem.W (AllAlike Sortable dataLe alike alikeAll AlikeAll minD dataLt dataLt_cons dataLt_tuple dataLt_int)
/-! ### readings are a class -/
theorem rd_self (b : Nat → Nat) (t : T3) : t ∈ readings b t := List.mem_cons_self
theorem rd_same {β : List Nat} {x t : T3} (bl : Bks β) (h : In3 β.length x) (m : t ∈ readings (bk β) x) (u : T3) : u ∈ readings (bk β) t ↔ u ∈ readings (bk β) x := by
  obtain ⟨p, q, r⟩ := x
  obtain ⟨h1, h2, h3⟩ := h
  have a1 := bl.inv p h1
  have a2 := bl.inv q h2
  have a3 := bl.inv r h3
  simp only [readings, List.mem_cons, List.not_mem_nil, or_false] at m
  rcases m with rfl | rfl | rfl | rfl | rfl | rfl <;> simp only [readings, List.mem_cons, List.not_mem_nil, or_false, a1, a2, a3] <;>
    (constructor <;> intro h <;> rcases h with h | h | h | h | h | h <;> simp [h])
theorem rd_symm {β : List Nat} {x t : T3} (bl : Bks β) (h : In3 β.length x) (m : t ∈ readings (bk β) x) : x ∈ readings (bk β) t := (rd_same bl h m x).mpr (rd_self _ _)
/-! ### lists without twins -/
theorem nd_le {α : Type} [DecidableEq α] : ∀ {l k : List α}, l.Nodup → (∀ x, x ∈ l → x ∈ k) → l.length ≤ k.length
  | [], _, _, _ => Nat.zero_le _
  | a :: l, k, h, s => by
    have ha := List.nodup_cons.mp h
    have h1 : a ∈ k := s a List.mem_cons_self
    have := nd_le (l := l) (k := k.erase a) ha.2 fun x m => (List.mem_erase_of_ne fun e => ha.1 (by rw [← e]; exact m)).mpr (s x (List.mem_cons_of_mem _ m))
    rw [List.length_erase_of_mem h1] at this
    have : 0 < k.length := List.length_pos_of_mem h1
    simp only [List.length_cons]
    omega
/-! ### the order of threes -/
def ltT (t u : T3) : Prop := t.1 < u.1 ∨ (t.1 = u.1 ∧ (t.2.1 < u.2.1 ∨ (t.2.1 = u.2.1 ∧ t.2.2 < u.2.2)))
instance (t u : T3) : Decidable (ltT t u) := by unfold ltT; infer_instance
theorem ltT_irr (t : T3) : ¬ ltT t t := by simp [ltT]
theorem ltT_trans {a b c : T3} (h : ltT a b) (g : ltT b c) : ltT a c := by
  obtain ⟨a1, a2, a3⟩ := a
  obtain ⟨b1, b2, b3⟩ := b
  obtain ⟨c1, c2, c3⟩ := c
  simp only [ltT] at *
  omega
theorem ltT_tot {a b : T3} (h : ¬ ltT a b) (g : ¬ ltT b a) : a = b := by
  obtain ⟨a1, a2, a3⟩ := a
  obtain ⟨b1, b2, b3⟩ := b
  simp only [ltT, Prod.mk.injEq] at *
  omega
theorem alike_t (t u : T3) : alike (tD t) (tD u) = true := by simp [tD, alike, alikeAll]
theorem alike_ii (i j : Int) : alike (.int i) (.int j) = true := by simp [alike]
theorem dataLt_t (t u : T3) : dataLt (tD t) (tD u) = decide (ltT t u) := by
  obtain ⟨a1, a2, a3⟩ := t
  obtain ⟨b1, b2, b3⟩ := u
  have e0 : PyProof.Rows.lexLt itemOrd (PySem.W.keyToksAll []) (PySem.W.keyToksAll []) = false := PyProof.Rows.lex_irrefl _
  simp only [tD, dataLt_tuple, dataLt_cons (alike_ii _ _), dataLt_int, eqv_int, e0]
  rw [Bool.eq_iff_iff, decide_eq_true_iff (p := ltT (a1, a2, a3) (b1, b2, b3))]
  simp only [ltT, decide_eq_true_eq]
  by_cases h1 : (a1 : Int) = b1
  · rw [if_pos h1]
    by_cases h2 : (a2 : Int) = b2
    · rw [if_pos h2]
      by_cases h3 : (a3 : Int) = b3
      · rw [if_pos h3]
        simp only [Bool.false_eq_true, false_iff]
        omega
      · rw [if_neg h3]
        simp only [decide_eq_true_eq]
        omega
    · rw [if_neg h2]
      simp only [decide_eq_true_eq]
      omega
  · rw [if_neg h1]
    simp only [decide_eq_true_eq]
    omega
theorem all_pw {m : Nat} (h : m ≤ 4) : (allT m).Pairwise ltT := by
  match m, h with
  | 0, _ => decide +kernel
  | 1, _ => decide +kernel
  | 2, _ => decide +kernel
  | 3, _ => decide +kernel
  | 4, _ => decide +kernel
theorem bar_pw {m : Nat} (h : m ≤ 4) (B : T3 → Bool) : (barL m B).Pairwise ltT := (all_pw h).filter _
theorem all_len {m : Nat} (h : m ≤ 4) : (allT m).length ≤ 64 := by
  match m, h with
  | 0, _ => decide +kernel
  | 1, _ => decide +kernel
  | 2, _ => decide +kernel
  | 3, _ => decide +kernel
  | 4, _ => decide +kernel
theorem pw_nd : ∀ {l : List T3}, l.Pairwise ltT → l.Nodup := fun {l} h => h.imp fun {a b} hab e => by
  rw [e] at hab
  exact ltT_irr _ hab
/-- two rising lists of the same things -/
theorem pw_eq : ∀ {a b : List T3}, a.Pairwise ltT → b.Pairwise ltT → (∀ x, x ∈ a ↔ x ∈ b) → a = b
  | [], [], _, _, _ => rfl
  | [], y :: b, _, _, h => absurd ((h y).mpr List.mem_cons_self) (by simp)
  | x :: a, [], _, _, h => absurd ((h x).mp List.mem_cons_self) (by simp)
  | x :: a, y :: b, ha, hb, h => by
    have ha' := List.pairwise_cons.mp ha
    have hb' := List.pairwise_cons.mp hb
    have e : x = y := by
      refine ltT_tot (fun l => ?_) fun l => ?_
      · rcases List.mem_cons.mp ((h x).mp List.mem_cons_self) with e | m
        · rw [e] at l; exact ltT_irr _ l
        · exact ltT_irr _ (ltT_trans l (hb'.1 x m))
      · rcases List.mem_cons.mp ((h y).mpr List.mem_cons_self) with e | m
        · rw [e] at l; exact ltT_irr _ l
        · exact ltT_irr _ (ltT_trans l (ha'.1 y m))
    subst e
    rw [pw_eq ha'.2 hb'.2 fun z => ?_]
    have nx : x ∉ a := fun m => ltT_irr _ (ha'.1 x m)
    have ny : x ∉ b := fun m => ltT_irr _ (hb'.1 x m)
    constructor
    · intro m
      rcases List.mem_cons.mp ((h z).mp (List.mem_cons_of_mem _ m)) with e | m2
      · rw [e] at m; exact absurd m nx
      · exact m2
    · intro m
      rcases List.mem_cons.mp ((h z).mpr (List.mem_cons_of_mem _ m)) with e | m2
      · rw [e] at m; exact absurd m ny
      · exact m2
/-! ### sorted -/
theorem sort_ts {c : List T3} {m : Nat} (hm : m ≤ 4) (nd : c.Nodup) {B : T3 → Bool} (h : ∀ t, t ∈ c ↔ In3 m t ∧ B t = true) : (c.map tD).mergeSort (dataLe false id) = (barL m B).map tD := by
  have hle : ∀ t u : T3, dataLe false id (tD t) (tD u) = !decide (ltT u t) := fun t u => by
    show (!dataLt (id (tD u)) (id (tD t))) = _
    rw [show dataLt (id (tD u)) (id (tD t)) = dataLt (tD u) (tD t) from rfl, dataLt_t]
  have e1 : (c.map tD).mergeSort (dataLe false id) = (c.mergeSort fun t u => dataLe false id (tD t) (tD u)).map tD := (List.map_mergeSort (f := tD) (r := fun t u => dataLe false id (tD t) (tD u)) (s := dataLe false id) (l := c) (fun a _ b _ => rfl)).symm
  rw [e1]
  congr 1
  have hfun : (fun t u => dataLe false id (tD t) (tD u)) = fun t u : T3 => !decide (ltT u t) := by
    funext t u
    exact hle t u
  rw [hfun]
  have pm := List.mergeSort_perm c fun t u : T3 => !decide (ltT u t)
  have so := List.pairwise_mergeSort (le := fun t u : T3 => !decide (ltT u t)) (fun a b c h g => by
    simp only [Bool.not_eq_true', decide_eq_false_iff_not] at *
    intro l
    by_cases q : ltT b a
    · exact h q
    · by_cases q2 : ltT a b
      · exact g (ltT_trans l q2)
      · have e := ltT_tot q2 q
        rw [e] at l
        exact g l) (fun a b => by
    simp only [Bool.or_eq_true, Bool.not_eq_true', decide_eq_false_iff_not]
    by_cases q : ltT b a
    · exact .inr fun z => ltT_irr _ (ltT_trans q z)
    · exact .inl q) c
  have nd2 : (c.mergeSort fun t u : T3 => !decide (ltT u t)).Nodup := pm.nodup_iff.mpr nd
  refine pw_eq ?_ (bar_pw hm B) fun x => ?_
  · have := so.and nd2
    refine this.imp fun {a b} ⟨h1, h2⟩ => ?_
    simp only [Bool.not_eq_true', decide_eq_false_iff_not] at h1
    by_cases q : ltT a b
    · exact q
    · exact absurd (ltT_tot q h1) h2
  · rw [pm.mem_iff, h x]
    unfold barL
    rw [List.mem_filter, mem_allT]
theorem ts_alike (l : List T3) : AllAlike (l.map tD) := fun d hd e he => by
  obtain ⟨t, _, rfl⟩ := List.mem_map.mp hd
  obtain ⟨u, _, rfl⟩ := List.mem_map.mp he
  exact alike_t t u
theorem ts_sortable (l : List T3) : Sortable (l.map tD) := .inl fun d hd => by
  obtain ⟨t, _, rfl⟩ := List.mem_map.mp hd
  exact ⟨_, _, rfl⟩
/-- the closure -/
theorem clo_iff {b : Nat → Nat} {L : List T3} {t : T3} : clo b L t = true ↔ ∃ x, x ∈ L ∧ t ∈ readings b x := by
  unfold clo
  simp only [List.any_eq_true, List.contains_iff_mem]
end Z
set_option Elab.async false
set_option linter.all false
set_option maxRecDepth 100000
set_option maxHeartbeats 4000000
namespace Z
open PySem PySem.Spec PyProof.Rows L2
open StX (tStar pa_star)
theorem sc_is_whole : FnScope ["thing", "low", "high"] ["thing", "low", "high"] (defScope s_is_whole) := ⟨rfl, rfl, rfl, by decide +kernel, rfl, by decide +kernel, by decide +kernel⟩
def t_is_whole (K : PySem.W.Frag) : TS :=
    (tRet (tAndV (tCB (rIsi K) (tCons (tVar 0) (tCons (tC (.ty "int")) tNil))) (tAndV (tNotV (tCB (rIsi K) (tCons (tVar 0) (tCons (tC (.ty "bool")) tNil)))) (tChain rLe rLe (tVar 1) (tVar 0) (tVar 2)))))
theorem ok_is_whole {P : Program} {w : World} {K : PySem.W.Frag} {mg : Str → Option Value} {base : Heap} (T : Tx K mg) {sp : Sp} (hl : ∀ vs H Q E, sp vs H Q E → vs.length = 3)
    (tr : ∀ vs H Q E, sp vs H Q E → t_is_whole K { nx := fun _ H' => Q .non H', rt := Q } (L2.start ["thing", "low", "high"] vs) H) :
    Cal P w K mg base CX0 3 "is_whole" ["thing", "low", "high"] sp := by
  obtain ⟨fd, F⟩ := T.F_is_whole
  have b : Binds K fd ["thing", "low", "high"] [] := F.bindsN fun _ _ _ _ _ _ us hl => match us, hl with | [_, _, _], _ => rfl
  refine ⟨⟨fd, ?_, b⟩, F.kp, T.g_is_whole⟩
  refine FunD.ok F sc_is_whole hl fun cdv A outer s H vs Q E hr h => ⟨_, PSs.nox ?_, tr vs H Q E h⟩
  have hu64 := hr.units
  unfold t_is_whole
  exact (pss_one (ps_ret (pe_and (pe_callB call_isi (by rfl) T.f_isinstance PyProof.Rows.boot_isinstance (pa_cons (pv 0) (pa_cons (pe_bltn (v := .ty "int") (u := .type "int") (by rfl) T.f_int (by decide +kernel) (by rfl)) pa_nil))) (pe_and (pe_not (pe_callB call_isi (by rfl) T.f_isinstance PyProof.Rows.boot_isinstance (pa_cons (pv 0) (pa_cons (pe_bltn (v := .ty "bool") (u := .type "bool") (by rfl) T.f_bool (by decide +kernel) (by rfl)) pa_nil)))) (pe_one (pe_chain op_le op_le (pv 1) (pv 0) (pv 2)))))))
theorem sc_is_label : FnScope ["thing"] ["thing"] (defScope s_is_label) := ⟨rfl, rfl, rfl, by decide +kernel, rfl, by decide +kernel, by decide +kernel⟩
def t_is_label (K : PySem.W.Frag) (sp_is_whole : Sp) : TS :=
    (tRet (tCall sp_is_whole [] E0 (tCons (tVar 0) (tCons (tC (.int 0)) (tCons (tC (.int 1000000000)) tNil)))))
theorem ok_is_label {P : Program} {w : World} {K : PySem.W.Frag} {mg : Str → Option Value} {base : Heap} (T : Tx K mg) {sp_is_whole : Sp} (C_is_whole : Cal P w K mg base CX0 3 "is_whole" ["thing", "low", "high"] sp_is_whole) {sp : Sp} (hl : ∀ vs H Q E, sp vs H Q E → vs.length = 1)
    (tr : ∀ vs H Q E, sp vs H Q E → t_is_label K sp_is_whole { nx := fun _ H' => Q .non H', rt := Q } (L2.start ["thing"] vs) H) :
    Cal P w K mg base CX0 4 "is_label" ["thing"] sp := by
  obtain ⟨fd, F⟩ := T.F_is_label
  have b : Binds K fd ["thing"] [] := F.bindsN fun _ _ _ _ _ _ us hl => match us, hl with | [_], _ => rfl
  refine ⟨⟨fd, ?_, b⟩, F.kp, T.g_is_label⟩
  refine FunD.ok F sc_is_label hl fun cdv A outer s H vs Q E hr h => ⟨_, PSs.nox ?_, tr vs H Q E h⟩
  have hr_is_whole : Room 3 _ := hr.mono (by decide)
  have hu64 := hr.units
  unfold t_is_label
  exact (pss_one (ps_ret (pe_cal C_is_whole hr_is_whole (by rfl) pass0 (pa_cons (pv 0) (pa_cons pe_int (pa_cons (pe_globI (by rfl) T.i_MOST_LABEL) pa_nil))))))
theorem sc_Ties_init : FnScope ["self", "backs", "entry", "place"] ["self", "backs"] (defScope s_Ties_init) := ⟨rfl, rfl, rfl, by decide +kernel, rfl, by decide +kernel, by decide +kernel⟩
def t_Ties_init (K : PySem.W.Frag) (sp_is_whole : Sp) : TS :=
    (tSeq (tIfS (tNot (tB (tCB (rIsiT K) (tCons (tVar 1) (tCons (tTup (tCons (tC (.ty "list")) (tCons (tC (.ty "tuple")) tNil))) tNil)))))
    tNever
    tNext)
    (tSeq (tIfS (tNot (tTest (tChain rLe rLe (tC (.int 2)) (tCB (rLen K) (tCons (tVar 1) tNil)) (tC (.int 4)))))
    tNever
    tNext)
    (tSeq (tFor (iSeq K (tVar 1)) (gName 2)
    (tIfS (tNot (tB (tCall sp_is_whole [] E0 (tCons (tVar 2) (tCons (tC (.int 0)) (tCons (tOp rSub (tCB (rLen K) (tCons (tVar 1) tNil)) (tC (.int 1))) tNil))))))
    tNever
    tNext))
    (tSeq (tFor (iRng1 (tCons (tCB (rLen K) (tCons (tVar 1) tNil)) tNil)) (gName 3)
    (tIfS (tTest (tOp (rNeD K) (tOp (rIxLT K) (tVar 1) (tOp (rIxLT K) (tVar 1) (tVar 3))) (tVar 3)))
    tNever
    tNext))
    (tSeq (sFld K (tVar 0) (tThen (tVar 1) (kTup K)) "backs")
    (sFld K (tVar 0) (tCB (rLen K) (tCons (tVar 1) tNil)) "many"))))))
theorem ok_Ties_init {P : Program} {w : World} {K : PySem.W.Frag} {mg : Str → Option Value} {base : Heap} (T : Tx K mg) {sp_is_whole : Sp} (C_is_whole : Cal P w K mg base CX0 3 "is_whole" ["thing", "low", "high"] sp_is_whole) {sp : Sp} (hl : ∀ vs H Q E, sp vs H Q E → vs.length = 2)
    (tr : ∀ vs H Q E, sp vs H Q E → t_Ties_init K sp_is_whole { nx := fun _ H' => Q .non H', rt := Q } (L2.start ["self", "backs", "entry", "place"] vs) H) :
    CalC P w K mg base CX0 4 "Ties" ["self", "backs"] sp := by
  obtain ⟨fd, F⟩ := T.F_Ties_init
  have b : Binds K fd ["self", "backs"] [] := F.bindsN fun _ _ _ _ _ _ us hl => match us, hl with | [_, _], _ => rfl
  refine ⟨⟨fd, ?_, b⟩, T.m_Ties, T.g_Ties⟩
  refine FunD.ok F sc_Ties_init hl fun cdv A outer s H vs Q E hr h => ⟨_, PSs.nox ?_, tr vs H Q E h⟩
  have hr_is_whole : Room 3 _ := hr.mono (by decide)
  have hu64 := hr.units
  unfold t_Ties_init
  exact (pss_cons (ps_if (pt_not (pt_val (pe_callB call_isiT (by rfl) T.f_isinstance PyProof.Rows.boot_isinstance (pa_cons (pv 1) (pa_cons (pe_tup (pa_cons (pe_bltn (v := .ty "list") (u := .type "list") (by rfl) T.f_list (by decide +kernel) (by rfl)) (pa_cons (pe_bltn (v := .ty "tuple") (u := .type "tuple") (by rfl) T.f_tuple (by decide +kernel) (by rfl)) pa_nil))) pa_nil))))) (pss_one ps_never) pss_nil)
    (pss_cons (ps_if (pt_not (pt_chain op_le op_le pe_int (pe_callB call_len (by rfl) T.f_len PySem.boot_len (pa_cons (pv 1) pa_nil)) (pe_globI (by rfl) T.i_MOST_TIES))) (pss_one ps_never) pss_nil)
    (pss_cons (ps_for PassesOwn.never rfl (pi_seq (pv 1)) (pg_name (i := 2) sc_Ties_init.nd rfl (by first | exact Or.inl rfl | exact Or.inr rfl)) (pss_one (ps_if (pt_not (pt_val (pe_cal C_is_whole hr_is_whole (by rfl) pass0 (pa_cons (pv 2) (pa_cons pe_int (pa_cons (pe_op op_sub (pe_callB call_len (by rfl) T.f_len PySem.boot_len (pa_cons (pv 1) pa_nil)) pe_int) pa_nil)))))) (pss_one ps_never) pss_nil)))
    (pss_cons (ps_for PassesOwn.never rfl (pi_range1 (by rfl) T.f_range (pa_cons (pe_callB call_len (by rfl) T.f_len PySem.boot_len (pa_cons (pv 1) pa_nil)) pa_nil)) (pg_name (i := 3) sc_Ties_init.nd rfl (by first | exact Or.inl rfl | exact Or.inr rfl)) (pss_one (ps_if (pt_cmpR (op_neD hu64) (pe_ix ix_LT (pv 1) (pe_ix ix_LT (pv 1) (pv 3) (fun _ _ => rfl)) (fun _ _ => rfl)) (pv 3) (nomark _)) (pss_one ps_never) pss_nil)))
    (pss_cons (ps_fld (pv 0) (pe_tupleOf (by rfl) T.f_tuple (pv 1)) rfl)
    (pss_one (ps_fld (pv 0) (pe_callB call_len (by rfl) T.f_len PySem.boot_len (pa_cons (pv 1) pa_nil)) rfl)))))))
theorem sc_Ties_eq : FnScope ["self", "other"] ["self", "other"] (defScope s_Ties_eq) := ⟨rfl, rfl, rfl, by decide +kernel, rfl, by decide +kernel, by decide +kernel⟩
def t_Ties_eq (K : PySem.W.Frag) : TS :=
    (tRet (tAndV (tCB (rIsi K) (tCons (tVar 1) (tCons (tC (.ref (He.ga K "Ties"))) tNil))) (tOp (rEqD K) (tFld K (tVar 0) "backs") (tFld K (tVar 1) "backs"))))
theorem ok_Ties_eq {P : Program} {w : World} {K : PySem.W.Frag} {mg : Str → Option Value} {base : Heap} (T : Tx K mg) {sp : Sp} (hl : ∀ vs H Q E, sp vs H Q E → vs.length = 2)
    (tr : ∀ vs H Q E, sp vs H Q E → t_Ties_eq K { nx := fun _ H' => Q .non H', rt := Q } (L2.start ["self", "other"] vs) H) :
    CalM P w K mg base CX0 3 "Ties" "__eq__" ["self", "other"] sp := by
  obtain ⟨fd, F⟩ := T.F_Ties_eq
  have b : Binds K fd ["self", "other"] [] := F.bindsN fun _ _ _ _ _ _ us hl => match us, hl with | [_, _], _ => rfl
  refine ⟨⟨fd, ?_, b⟩, T.h_Ties_eq⟩
  refine FunD.ok F sc_Ties_eq hl fun cdv A outer s H vs Q E hr h => ⟨_, PSs.nox ?_, tr vs H Q E h⟩
  have hu64 := hr.units
  unfold t_Ties_eq
  exact (pss_one (ps_ret (pe_and (pe_callB call_isi (by rfl) T.f_isinstance PyProof.Rows.boot_isinstance (pa_cons (pv 1) (pa_cons (pe_glob (by rfl) T.g_Ties (by rfl)) pa_nil))) (pe_one (pe_cmpR (op_eqD hu64) (pe_fld (pv 0) rfl) (pe_fld (pv 1) rfl) (nomark _))))))
theorem sc_row_word : FnScope ["ties", "row", "length", "entry"] ["ties", "row", "length"] (defScope s_row_word) := ⟨rfl, rfl, rfl, by decide +kernel, rfl, by decide +kernel, by decide +kernel⟩
def t_row_word (K : PySem.W.Frag) (sp_is_whole : Sp) : TS :=
    (tSeq (tIfS (tNot (tB (tCB (rIsiT K) (tCons (tVar 1) (tCons (tTup (tCons (tC (.ty "list")) (tCons (tC (.ty "tuple")) tNil))) tNil)))))
    (tRet (tC (.str "row")))
    tNext)
    (tSeq (tIfS (tTest (tOp (rNeD K) (tCB (rLen K) (tCons (tVar 1) tNil)) (tVar 2)))
    (tRet (tC (.str "length")))
    tNext)
    (tSeq (tFor (iSeq K (tVar 1)) (gName 3)
    (tIfS (tNot (tB (tCall sp_is_whole [] E0 (tCons (tVar 3) (tCons (tC (.int 0)) (tCons (tOp rSub (tFld K (tVar 0) "many") (tC (.int 1))) tNil))))))
    (tRet (tC (.str "tie")))
    tNext))
    (tRet (tC .non)))))
theorem ok_row_word {P : Program} {w : World} {K : PySem.W.Frag} {mg : Str → Option Value} {base : Heap} (T : Tx K mg) {sp_is_whole : Sp} (C_is_whole : Cal P w K mg base CX0 3 "is_whole" ["thing", "low", "high"] sp_is_whole) {sp : Sp} (hl : ∀ vs H Q E, sp vs H Q E → vs.length = 3)
    (tr : ∀ vs H Q E, sp vs H Q E → t_row_word K sp_is_whole { nx := fun _ H' => Q .non H', rt := Q } (L2.start ["ties", "row", "length", "entry"] vs) H) :
    Cal P w K mg base CX0 4 "_row_word" ["ties", "row", "length"] sp := by
  obtain ⟨fd, F⟩ := T.F_row_word
  have b : Binds K fd ["ties", "row", "length"] [] := F.bindsN fun _ _ _ _ _ _ us hl => match us, hl with | [_, _, _], _ => rfl
  refine ⟨⟨fd, ?_, b⟩, F.kp, T.g_row_word⟩
  refine FunD.ok F sc_row_word hl fun cdv A outer s H vs Q E hr h => ⟨_, PSs.nox ?_, tr vs H Q E h⟩
  have hr_is_whole : Room 3 _ := hr.mono (by decide)
  have hu64 := hr.units
  unfold t_row_word
  exact (pss_cons (ps_if (pt_not (pt_val (pe_callB call_isiT (by rfl) T.f_isinstance PyProof.Rows.boot_isinstance (pa_cons (pv 1) (pa_cons (pe_tup (pa_cons (pe_bltn (v := .ty "list") (u := .type "list") (by rfl) T.f_list (by decide +kernel) (by rfl)) (pa_cons (pe_bltn (v := .ty "tuple") (u := .type "tuple") (by rfl) T.f_tuple (by decide +kernel) (by rfl)) pa_nil))) pa_nil))))) (pss_one (ps_ret pe_str)) pss_nil)
    (pss_cons (ps_if (pt_cmpR (op_neD hu64) (pe_callB call_len (by rfl) T.f_len PySem.boot_len (pa_cons (pv 1) pa_nil)) (pv 2) (nomark _)) (pss_one (ps_ret pe_str)) pss_nil)
    (pss_cons (ps_for PassesOwn.never rfl (pi_seq (pv 1)) (pg_name (i := 3) sc_row_word.nd rfl (by first | exact Or.inl rfl | exact Or.inr rfl)) (pss_one (ps_if (pt_not (pt_val (pe_cal C_is_whole hr_is_whole (by rfl) pass0 (pa_cons (pv 3) (pa_cons pe_int (pa_cons (pe_op op_sub (pe_fld (pv 0) rfl) pe_int) pa_nil)))))) (pss_one (ps_ret pe_str)) pss_nil)))
    (pss_one (ps_ret pe_non)))))
theorem sc_check : FnScope ["ties", "guests", "rows", "place", "word"] ["ties", "guests", "rows"] (defScope s_check) := ⟨rfl, rfl, rfl, by decide +kernel, rfl, by decide +kernel, by decide +kernel⟩
def t_check (K : PySem.W.Frag) (sp_row_word sp_is_label : Sp) : TS :=
    (tSeq (tIfS (tOr (tNot (tB (tCB (rIsiT K) (tCons (tVar 1) (tCons (tTup (tCons (tC (.ty "list")) (tCons (tC (.ty "tuple")) tNil))) tNil))))) (tNot (tB (tCB (rIsiT K) (tCons (tVar 2) (tCons (tTup (tCons (tC (.ty "list")) (tCons (tC (.ty "tuple")) tNil))) tNil))))))
    tNever
    tNext)
    (tSeq (tIfS (tTest (tOp rGt (tCB (rLen K) (tCons (tVar 1) tNil)) (tC (.int 60))))
    tNever
    tNext)
    (tSeq (tFor (iRng1 (tCons (tCB (rLen K) (tCons (tVar 1) tNil)) tNil)) (gName 3)
    (tSeq (tIfS (tNot (tB (tCall sp_is_label [] E0 (tCons (tOp (rIxLT K) (tVar 1) (tVar 3)) tNil))))
    tNever
    tNext)
    (tSeq (tIfS (tAnd (tTest (tOp rGt (tVar 3) (tC (.int 0)))) (tTest (tOp rGe (tOp (rIxLT K) (tVar 1) (tOp rSub (tVar 3) (tC (.int 1)))) (tOp (rIxLT K) (tVar 1) (tVar 3)))))
    tNever
    tNext)
    (tSeq (tIfS (tTest (tOp rGe (tVar 3) (tCB (rLen K) (tCons (tVar 2) tNil))))
    tNever
    tNext)
    (tSeq (tAsg (tCall sp_row_word [] E0 (tCons (tVar 0) (tCons (tOp (rIxLT K) (tVar 2) (tVar 3)) (tCons (tVar 3) tNil)))) (gName 4))
    (tIfS (tTest (tOp rIsNot (tVar 4) (tC .non)))
    tNever
    tNext))))))
    (tIfS (tTest (tOp rGt (tCB (rLen K) (tCons (tVar 2) tNil)) (tCB (rLen K) (tCons (tVar 1) tNil))))
    tNever
    tNext))))
theorem ok_check {P : Program} {w : World} {K : PySem.W.Frag} {mg : Str → Option Value} {base : Heap} (T : Tx K mg) {sp_row_word sp_is_label : Sp} (C_row_word : Cal P w K mg base CX0 4 "_row_word" ["ties", "row", "length"] sp_row_word) (C_is_label : Cal P w K mg base CX0 4 "is_label" ["thing"] sp_is_label) {sp : Sp} (hl : ∀ vs H Q E, sp vs H Q E → vs.length = 3)
    (tr : ∀ vs H Q E, sp vs H Q E → t_check K sp_row_word sp_is_label { nx := fun _ H' => Q .non H', rt := Q } (L2.start ["ties", "guests", "rows", "place", "word"] vs) H) :
    Cal P w K mg base CX0 5 "_check" ["ties", "guests", "rows"] sp := by
  obtain ⟨fd, F⟩ := T.F_check
  have b : Binds K fd ["ties", "guests", "rows"] [] := F.bindsN fun _ _ _ _ _ _ us hl => match us, hl with | [_, _, _], _ => rfl
  refine ⟨⟨fd, ?_, b⟩, F.kp, T.g_check⟩
  refine FunD.ok F sc_check hl fun cdv A outer s H vs Q E hr h => ⟨_, PSs.nox ?_, tr vs H Q E h⟩
  have hr_row_word : Room 4 _ := hr.mono (by decide)
  have hr_is_label : Room 4 _ := hr.mono (by decide)
  have hu64 := hr.units
  unfold t_check
  exact (pss_cons (ps_if (PW.pt (pw_or (pt_not (pt_val (pe_callB call_isiT (by rfl) T.f_isinstance PyProof.Rows.boot_isinstance (pa_cons (pv 1) (pa_cons (pe_tup (pa_cons (pe_bltn (v := .ty "list") (u := .type "list") (by rfl) T.f_list (by decide +kernel) (by rfl)) (pa_cons (pe_bltn (v := .ty "tuple") (u := .type "tuple") (by rfl) T.f_tuple (by decide +kernel) (by rfl)) pa_nil))) pa_nil))))) (pw_or1 (pt_not (pt_val (pe_callB call_isiT (by rfl) T.f_isinstance PyProof.Rows.boot_isinstance (pa_cons (pv 2) (pa_cons (pe_tup (pa_cons (pe_bltn (v := .ty "list") (u := .type "list") (by rfl) T.f_list (by decide +kernel) (by rfl)) (pa_cons (pe_bltn (v := .ty "tuple") (u := .type "tuple") (by rfl) T.f_tuple (by decide +kernel) (by rfl)) pa_nil))) pa_nil)))))))) (pss_one ps_never) pss_nil)
    (pss_cons (ps_if (pt_cmpR op_gt (pe_callB call_len (by rfl) T.f_len PySem.boot_len (pa_cons (pv 1) pa_nil)) (pe_globI (by rfl) T.i_MOST_GUESTS) (nomark _)) (pss_one ps_never) pss_nil)
    (pss_cons (ps_for PassesOwn.never rfl (pi_range1 (by rfl) T.f_range (pa_cons (pe_callB call_len (by rfl) T.f_len PySem.boot_len (pa_cons (pv 1) pa_nil)) pa_nil)) (pg_name (i := 3) sc_check.nd rfl (by first | exact Or.inl rfl | exact Or.inr rfl)) (pss_cons (ps_if (pt_not (pt_val (pe_cal C_is_label hr_is_label (by rfl) pass0 (pa_cons (pe_ix ix_LT (pv 1) (pv 3) (fun _ _ => rfl)) pa_nil)))) (pss_one ps_never) pss_nil)
    (pss_cons (ps_if (PW.pt (pw_and (pt_cmpR op_gt (pv 3) pe_int (nomark _)) (pw_and1 (pt_cmpR op_ge (pe_ix ix_LT (pv 1) (pe_op op_sub (pv 3) pe_int) (fun _ _ => rfl)) (pe_ix ix_LT (pv 1) (pv 3) (fun _ _ => rfl)) (nomark _))))) (pss_one ps_never) pss_nil)
    (pss_cons (ps_if (pt_cmpR op_ge (pv 3) (pe_callB call_len (by rfl) T.f_len PySem.boot_len (pa_cons (pv 2) pa_nil)) (nomark _)) (pss_one ps_never) pss_nil)
    (pss_cons (ps_set (i := 4) sc_check.nd rfl (by first | exact Or.inl rfl | exact Or.inr rfl) (pe_cal C_row_word hr_row_word (by rfl) pass0 (pa_cons (pv 0) (pa_cons (pe_ix ix_LT (pv 2) (pv 3) (fun _ _ => rfl)) (pa_cons (pv 3) pa_nil)))))
    (pss_one (ps_if (pt_cmpR op_notN (pv 4) pe_non (nomark _)) (pss_one ps_never) pss_nil)))))))
    (pss_one (ps_if (pt_cmpR op_gt (pe_callB call_len (by rfl) T.f_len PySem.boot_len (pa_cons (pv 2) pa_nil)) (pe_callB call_len (by rfl) T.f_len PySem.boot_len (pa_cons (pv 1) pa_nil)) (nomark _)) (pss_one ps_never) pss_nil)))))
theorem sc_Company_init : FnScope ["self", "ties", "guests", "rows", "row"] ["self", "ties", "guests", "rows"] (defScope s_Company_init) := ⟨rfl, rfl, rfl, by decide +kernel, rfl, by decide +kernel, by decide +kernel⟩
def t_Company_init (K : PySem.W.Frag) (sp_check : Sp) : TS :=
    (tSeq (tDrop (tCall sp_check [] E0 (tCons (tVar 1) (tCons (tVar 2) (tCons (tVar 3) tNil)))))
    (tSeq (sFld K (tVar 0) (tVar 1) "ties")
    (tSeq (sFld K (tVar 0) (tThen (tVar 2) (kTup K)) "guests")
    (sFld K (tVar 0) (tThen (tLc (iSeq K (tVar 3)) (gName 4) tYes (tThen (tVar 4) (kTup K)) [4]) (kTup K)) "rows"))))
theorem ok_Company_init {P : Program} {w : World} {K : PySem.W.Frag} {mg : Str → Option Value} {base : Heap} (T : Tx K mg) {sp_check : Sp} (C_check : Cal P w K mg base CX0 5 "_check" ["ties", "guests", "rows"] sp_check) {sp : Sp} (hl : ∀ vs H Q E, sp vs H Q E → vs.length = 4)
    (tr : ∀ vs H Q E, sp vs H Q E → t_Company_init K sp_check { nx := fun _ H' => Q .non H', rt := Q } (L2.start ["self", "ties", "guests", "rows", "row"] vs) H) :
    CalC P w K mg base CX0 6 "Company" ["self", "ties", "guests", "rows"] sp := by
  obtain ⟨fd, F⟩ := T.F_Company_init
  have b : Binds K fd ["self", "ties", "guests", "rows"] [] := binds_all F 1 (by rfl) fun T kV doc pm an cdv ct us its hl hi => match us, its, hl, (show its.length = 2 from hi) with | [_, _, _, _], [_, _], _, _ => ⟨_, rfl, rfl⟩
  refine ⟨⟨fd, ?_, b⟩, T.m_Company, T.g_Company⟩
  refine FunD.ok F sc_Company_init hl fun cdv A outer s H vs Q E hr h => ⟨_, PSs.nox ?_, tr vs H Q E h⟩
  have hr_check : Room 5 _ := hr.mono (by decide)
  have hu64 := hr.units
  unfold t_Company_init
  exact (pss_cons (ps_expr (pe_cal C_check hr_check (by rfl) pass0 (pa_cons (pv 1) (pa_cons (pv 2) (pa_cons (pv 3) pa_nil)))))
    (pss_cons (ps_fld (pv 0) (pv 1) rfl)
    (pss_cons (ps_fld (pv 0) (pe_tupleOf (by rfl) T.f_tuple (pv 2)) rfl)
    (pss_one (ps_fld (pv 0) (pe_tupleOf (by rfl) T.f_tuple (pe_lc (own := [("row", 4)]) (g := (gName 4)) (tt := tYes) rfl sc_Company_init.nd (pi_seq (pv 3)) (blkOk_by (by kernel_rfl)) (fun _ _ _ _ _ => (pg_name (i := 4) sc_Company_init.nd rfl (by first | exact Or.inl rfl | exact Or.inr rfl))) (fun _ _ _ _ _ => pts_nil) (fun _ _ _ _ _ => (pe_tupleOf (by rfl) T.f_tuple (pv 4))))) rfl)))))
theorem sc_Company_tie_at : FnScope ["self", "one", "other"] ["self", "one", "other"] (defScope s_Company_tie_at) := ⟨rfl, rfl, rfl, by decide +kernel, rfl, by decide +kernel, by decide +kernel⟩
def t_Company_tie_at (K : PySem.W.Frag) : TS :=
    (tSeq (tIfS (tTest (tOp rGt (tVar 1) (tVar 2)))
    (tRet (tOp (rIxLT K) (tOp (rIxLT K) (tFld K (tVar 0) "rows") (tVar 1)) (tVar 2)))
    tNext)
    (tRet (tOp (rIxLT K) (tFld K (tFld K (tVar 0) "ties") "backs") (tOp (rIxLT K) (tOp (rIxLT K) (tFld K (tVar 0) "rows") (tVar 2)) (tVar 1)))))
theorem ok_Company_tie_at {P : Program} {w : World} {K : PySem.W.Frag} {mg : Str → Option Value} {base : Heap} (T : Tx K mg) {sp : Sp} (hl : ∀ vs H Q E, sp vs H Q E → vs.length = 3)
    (tr : ∀ vs H Q E, sp vs H Q E → t_Company_tie_at K { nx := fun _ H' => Q .non H', rt := Q } (L2.start ["self", "one", "other"] vs) H) :
    CalM P w K mg base CX0 3 "Company" "tie_at" ["self", "one", "other"] sp := by
  obtain ⟨fd, F⟩ := T.F_Company_tie_at
  have b : Binds K fd ["self", "one", "other"] [] := F.bindsN fun _ _ _ _ _ _ us hl => match us, hl with | [_, _, _], _ => rfl
  refine ⟨⟨fd, ?_, b⟩, T.h_Company_tie_at⟩
  refine FunD.ok F sc_Company_tie_at hl fun cdv A outer s H vs Q E hr h => ⟨_, PSs.nox ?_, tr vs H Q E h⟩
  have hu64 := hr.units
  unfold t_Company_tie_at
  exact (pss_cons (ps_if (pt_cmpR op_gt (pv 1) (pv 2) (nomark _)) (pss_one (ps_ret (pe_ix ix_LT (pe_ix ix_LT (pe_fld (pv 0) rfl) (pv 1) (fun _ _ => rfl)) (pv 2) (fun _ _ => rfl)))) pss_nil)
    (pss_one (ps_ret (pe_ix ix_LT (pe_fld (pe_fld (pv 0) rfl) rfl) (pe_ix ix_LT (pe_ix ix_LT (pe_fld (pv 0) rfl) (pv 2) (fun _ _ => rfl)) (pv 1) (fun _ _ => rfl)) (fun _ _ => rfl)))))
theorem sc_Company_len : FnScope ["self"] ["self"] (defScope s_Company_len) := ⟨rfl, rfl, rfl, by decide +kernel, rfl, by decide +kernel, by decide +kernel⟩
def t_Company_len (K : PySem.W.Frag) : TS :=
    (tRet (tCB (rLen K) (tCons (tFld K (tVar 0) "guests") tNil)))
theorem ok_Company_len {P : Program} {w : World} {K : PySem.W.Frag} {mg : Str → Option Value} {base : Heap} (T : Tx K mg) {sp : Sp} (hl : ∀ vs H Q E, sp vs H Q E → vs.length = 1)
    (tr : ∀ vs H Q E, sp vs H Q E → t_Company_len K { nx := fun _ H' => Q .non H', rt := Q } (L2.start ["self"] vs) H) :
    CalM P w K mg base CX0 3 "Company" "__len__" ["self"] sp := by
  obtain ⟨fd, F⟩ := T.F_Company_len
  have b : Binds K fd ["self"] [] := F.bindsN fun _ _ _ _ _ _ us hl => match us, hl with | [_], _ => rfl
  refine ⟨⟨fd, ?_, b⟩, T.h_Company_len⟩
  refine FunD.ok F sc_Company_len hl fun cdv A outer s H vs Q E hr h => ⟨_, PSs.nox ?_, tr vs H Q E h⟩
  have hu64 := hr.units
  unfold t_Company_len
  exact (pss_one (ps_ret (pe_callB call_len (by rfl) T.f_len PySem.boot_len (pa_cons (pe_fld (pv 0) rfl) pa_nil))))
theorem sc_is_three : FnScope ["ties", "thing", "entry"] ["ties", "thing"] (defScope s_is_three) := ⟨rfl, rfl, rfl, by decide +kernel, rfl, by decide +kernel, by decide +kernel⟩
def t_is_three (K : PySem.W.Frag) (sp_is_whole : Sp) : TS :=
    (tSeq (tIfS (tOr (tNot (tB (tCB (rIsiT K) (tCons (tVar 1) (tCons (tTup (tCons (tC (.ty "list")) (tCons (tC (.ty "tuple")) tNil))) tNil))))) (tTest (tOp (rNeD K) (tCB (rLen K) (tCons (tVar 1) tNil)) (tC (.int 3)))))
    (tRet (tC (.bl false)))
    tNext)
    (tSeq (tFor (iSeq K (tVar 1)) (gName 2)
    (tIfS (tNot (tB (tCall sp_is_whole [] E0 (tCons (tVar 2) (tCons (tC (.int 0)) (tCons (tOp rSub (tFld K (tVar 0) "many") (tC (.int 1))) tNil))))))
    (tRet (tC (.bl false)))
    tNext))
    (tRet (tC (.bl true)))))
theorem ok_is_three {P : Program} {w : World} {K : PySem.W.Frag} {mg : Str → Option Value} {base : Heap} (T : Tx K mg) {sp_is_whole : Sp} (C_is_whole : Cal P w K mg base CX0 3 "is_whole" ["thing", "low", "high"] sp_is_whole) {sp : Sp} (hl : ∀ vs H Q E, sp vs H Q E → vs.length = 2)
    (tr : ∀ vs H Q E, sp vs H Q E → t_is_three K sp_is_whole { nx := fun _ H' => Q .non H', rt := Q } (L2.start ["ties", "thing", "entry"] vs) H) :
    Cal P w K mg base CX0 4 "is_three" ["ties", "thing"] sp := by
  obtain ⟨fd, F⟩ := T.F_is_three
  have b : Binds K fd ["ties", "thing"] [] := F.bindsN fun _ _ _ _ _ _ us hl => match us, hl with | [_, _], _ => rfl
  refine ⟨⟨fd, ?_, b⟩, F.kp, T.g_is_three⟩
  refine FunD.ok F sc_is_three hl fun cdv A outer s H vs Q E hr h => ⟨_, PSs.nox ?_, tr vs H Q E h⟩
  have hr_is_whole : Room 3 _ := hr.mono (by decide)
  have hu64 := hr.units
  unfold t_is_three
  exact (pss_cons (ps_if (PW.pt (pw_or (pt_not (pt_val (pe_callB call_isiT (by rfl) T.f_isinstance PyProof.Rows.boot_isinstance (pa_cons (pv 1) (pa_cons (pe_tup (pa_cons (pe_bltn (v := .ty "list") (u := .type "list") (by rfl) T.f_list (by decide +kernel) (by rfl)) (pa_cons (pe_bltn (v := .ty "tuple") (u := .type "tuple") (by rfl) T.f_tuple (by decide +kernel) (by rfl)) pa_nil))) pa_nil))))) (pw_or1 (pt_cmpR (op_neD hu64) (pe_callB call_len (by rfl) T.f_len PySem.boot_len (pa_cons (pv 1) pa_nil)) pe_int (nomark _))))) (pss_one (ps_ret pe_bl)) pss_nil)
    (pss_cons (ps_for PassesOwn.never rfl (pi_seq (pv 1)) (pg_name (i := 2) sc_is_three.nd rfl (by first | exact Or.inl rfl | exact Or.inr rfl)) (pss_one (ps_if (pt_not (pt_val (pe_cal C_is_whole hr_is_whole (by rfl) pass0 (pa_cons (pv 2) (pa_cons pe_int (pa_cons (pe_op op_sub (pe_fld (pv 0) rfl) pe_int) pa_nil)))))) (pss_one (ps_ret pe_bl)) pss_nil)))
    (pss_one (ps_ret pe_bl))))
theorem sc_six : FnScope ["ties", "three", "p", "q", "r", "backs"] ["ties", "three"] (defScope s_six) := ⟨rfl, rfl, rfl, by decide +kernel, rfl, by decide +kernel, by decide +kernel⟩
def t_six (K : PySem.W.Frag) : TS :=
    (tSeq (tAsg (tVar 1) (gTup K 3 (gCons (gName 2) (gCons (gName 3) (gCons (gName 4) gNil)))))
    (tSeq (tAsg (tFld K (tVar 0) "backs") (gName 5))
    (tRet (tLst (tCons (tTup (tCons (tVar 2) (tCons (tVar 3) (tCons (tVar 4) tNil)))) (tCons (tTup (tCons (tVar 4) (tCons (tOp (rIxLT K) (tVar 5) (tVar 3)) (tCons (tVar 2) tNil)))) (tCons (tTup (tCons (tOp (rIxLT K) (tVar 5) (tVar 2)) (tCons (tVar 4) (tCons (tVar 3) tNil)))) (tCons (tTup (tCons (tVar 3) (tCons (tOp (rIxLT K) (tVar 5) (tVar 4)) (tCons (tOp (rIxLT K) (tVar 5) (tVar 2)) tNil)))) (tCons (tTup (tCons (tOp (rIxLT K) (tVar 5) (tVar 4)) (tCons (tVar 2) (tCons (tOp (rIxLT K) (tVar 5) (tVar 3)) tNil)))) (tCons (tTup (tCons (tOp (rIxLT K) (tVar 5) (tVar 3)) (tCons (tOp (rIxLT K) (tVar 5) (tVar 2)) (tCons (tOp (rIxLT K) (tVar 5) (tVar 4)) tNil)))) tNil))))))))))
theorem ok_six {P : Program} {w : World} {K : PySem.W.Frag} {mg : Str → Option Value} {base : Heap} (T : Tx K mg) {sp : Sp} (hl : ∀ vs H Q E, sp vs H Q E → vs.length = 2)
    (tr : ∀ vs H Q E, sp vs H Q E → t_six K { nx := fun _ H' => Q .non H', rt := Q } (L2.start ["ties", "three", "p", "q", "r", "backs"] vs) H) :
    Cal P w K mg base CX0 3 "_six" ["ties", "three"] sp := by
  obtain ⟨fd, F⟩ := T.F_six
  have b : Binds K fd ["ties", "three"] [] := F.bindsN fun _ _ _ _ _ _ us hl => match us, hl with | [_, _], _ => rfl
  refine ⟨⟨fd, ?_, b⟩, F.kp, T.g_six⟩
  refine FunD.ok F sc_six hl fun cdv A outer s H vs Q E hr h => ⟨_, PSs.nox ?_, tr vs H Q E h⟩
  have hu64 := hr.units
  unfold t_six
  exact (pss_cons (ps_asg (pv 1) (pg_tup rfl (pgs_cons (pg_name (i := 2) sc_six.nd rfl (by first | exact Or.inl rfl | exact Or.inr rfl)) (pgs_cons (pg_name (i := 3) sc_six.nd rfl (by first | exact Or.inl rfl | exact Or.inr rfl)) (pgs_cons (pg_name (i := 4) sc_six.nd rfl (by first | exact Or.inl rfl | exact Or.inr rfl)) pgs_nil)))))
    (pss_cons (ps_set (i := 5) sc_six.nd rfl (by first | exact Or.inl rfl | exact Or.inr rfl) (pe_fld (pv 0) rfl))
    (pss_one (ps_ret (pe_lst (pa_cons (pe_tup (pa_cons (pv 2) (pa_cons (pv 3) (pa_cons (pv 4) pa_nil)))) (pa_cons (pe_tup (pa_cons (pv 4) (pa_cons (pe_ix ix_LT (pv 5) (pv 3) (fun _ _ => rfl)) (pa_cons (pv 2) pa_nil)))) (pa_cons (pe_tup (pa_cons (pe_ix ix_LT (pv 5) (pv 2) (fun _ _ => rfl)) (pa_cons (pv 4) (pa_cons (pv 3) pa_nil)))) (pa_cons (pe_tup (pa_cons (pv 3) (pa_cons (pe_ix ix_LT (pv 5) (pv 4) (fun _ _ => rfl)) (pa_cons (pe_ix ix_LT (pv 5) (pv 2) (fun _ _ => rfl)) pa_nil)))) (pa_cons (pe_tup (pa_cons (pe_ix ix_LT (pv 5) (pv 4) (fun _ _ => rfl)) (pa_cons (pv 2) (pa_cons (pe_ix ix_LT (pv 5) (pv 3) (fun _ _ => rfl)) pa_nil)))) (pa_cons (pe_tup (pa_cons (pe_ix ix_LT (pv 5) (pv 3) (fun _ _ => rfl)) (pa_cons (pe_ix ix_LT (pv 5) (pv 2) (fun _ _ => rfl)) (pa_cons (pe_ix ix_LT (pv 5) (pv 4) (fun _ _ => rfl)) pa_nil)))) pa_nil)))))))))))
theorem sc_readings_of : FnScope ["ties", "three"] ["ties", "three"] (defScope s_readings_of) := ⟨rfl, rfl, rfl, by decide +kernel, rfl, by decide +kernel, by decide +kernel⟩
def t_readings_of (P : Program) (w : World) (K : PySem.W.Frag) (sp_is_three sp_six : Sp) : TS :=
    (tSeq (tIfS (tNot (tB (tCall sp_is_three [] E0 (tCons (tVar 0) (tCons (tVar 1) tNil)))))
    tNever
    tNext)
    (tRet (tThen (tCB (rSortedT K P w) (tCons (tCB (rSetOfT K P w) (tCons (tCall sp_six [] E0 (tCons (tVar 0) (tCons (tVar 1) tNil))) tNil)) tNil)) (kTup K))))
theorem ok_readings_of {P : Program} {w : World} {K : PySem.W.Frag} {mg : Str → Option Value} {base : Heap} (T : Tx K mg) {sp_is_three sp_six : Sp} (C_is_three : Cal P w K mg base CX0 4 "is_three" ["ties", "thing"] sp_is_three) (C_six : Cal P w K mg base CX0 3 "_six" ["ties", "three"] sp_six) {sp : Sp} (hl : ∀ vs H Q E, sp vs H Q E → vs.length = 2)
    (tr : ∀ vs H Q E, sp vs H Q E → t_readings_of P w K sp_is_three sp_six { nx := fun _ H' => Q .non H', rt := Q } (L2.start ["ties", "three"] vs) H) :
    Cal P w K mg base CX0 5 "readings_of" ["ties", "three"] sp := by
  obtain ⟨fd, F⟩ := T.F_readings_of
  have b : Binds K fd ["ties", "three"] [] := F.bindsN fun _ _ _ _ _ _ us hl => match us, hl with | [_, _], _ => rfl
  refine ⟨⟨fd, ?_, b⟩, F.kp, T.g_readings_of⟩
  refine FunD.ok F sc_readings_of hl fun cdv A outer s H vs Q E hr h => ⟨_, PSs.nox ?_, tr vs H Q E h⟩
  have hr_is_three : Room 4 _ := hr.mono (by decide)
  have hr_six : Room 3 _ := hr.mono (by decide)
  have hu64 := hr.units
  unfold t_readings_of
  exact (pss_cons (ps_if (pt_not (pt_val (pe_cal C_is_three hr_is_three (by rfl) pass0 (pa_cons (pv 0) (pa_cons (pv 1) pa_nil))))) (pss_one ps_never) pss_nil)
    (pss_one (ps_ret (pe_tupleOf (by rfl) T.f_tuple (pe_callB (cr_sortedT rfl) (by rfl) T.f_sorted (by decide +kernel) (pa_cons (pe_callTy (cr_setOfT rfl hu64) (by rfl) T.f_set (by decide +kernel) (pa_cons (pe_cal C_six hr_six (by rfl) pass0 (pa_cons (pv 0) (pa_cons (pv 1) pa_nil))) pa_nil)) pa_nil))))))
theorem sc_check_threes : FnScope ["ties", "threes", "what", "place", "three"] ["ties", "threes", "what"] (defScope s_check_threes) := ⟨rfl, rfl, rfl, by decide +kernel, rfl, by decide +kernel, by decide +kernel⟩
def t_check_threes (K : PySem.W.Frag) (sp_is_three : Sp) : TS :=
    (tSeq (tIfS (tNot (tB (tCB (rIsi K) (tCons (tVar 0) (tCons (tC (.ref (He.ga K "Ties"))) tNil)))))
    tNever
    tNext)
    (tSeq (tIfS (tNot (tB (tCB (rIsiT K) (tCons (tVar 1) (tCons (tTup (tCons (tC (.ty "list")) (tCons (tC (.ty "tuple")) tNil))) tNil)))))
    tNever
    tNext)
    (tFor (iEnumS K (tVar 1)) (gTup K 2 (gCons (gName 3) (gCons (gName 4) gNil)))
    (tIfS (tNot (tB (tCall sp_is_three [] E0 (tCons (tVar 0) (tCons (tVar 4) tNil)))))
    tNever
    tNext))))
theorem ok_check_threes {P : Program} {w : World} {K : PySem.W.Frag} {mg : Str → Option Value} {base : Heap} (T : Tx K mg) {sp_is_three : Sp} (C_is_three : Cal P w K mg base CX0 4 "is_three" ["ties", "thing"] sp_is_three) {sp : Sp} (hl : ∀ vs H Q E, sp vs H Q E → vs.length = 3)
    (tr : ∀ vs H Q E, sp vs H Q E → t_check_threes K sp_is_three { nx := fun _ H' => Q .non H', rt := Q } (L2.start ["ties", "threes", "what", "place", "three"] vs) H) :
    Cal P w K mg base CX0 5 "_check_threes" ["ties", "threes", "what"] sp := by
  obtain ⟨fd, F⟩ := T.F_check_threes
  have b : Binds K fd ["ties", "threes", "what"] [] := F.bindsN fun _ _ _ _ _ _ us hl => match us, hl with | [_, _, _], _ => rfl
  refine ⟨⟨fd, ?_, b⟩, F.kp, T.g_check_threes⟩
  refine FunD.ok F sc_check_threes hl fun cdv A outer s H vs Q E hr h => ⟨_, PSs.nox ?_, tr vs H Q E h⟩
  have hr_is_three : Room 4 _ := hr.mono (by decide)
  have hu64 := hr.units
  unfold t_check_threes
  exact (pss_cons (ps_if (pt_not (pt_val (pe_callB call_isi (by rfl) T.f_isinstance PyProof.Rows.boot_isinstance (pa_cons (pv 0) (pa_cons (pe_glob (by rfl) T.g_Ties (by rfl)) pa_nil))))) (pss_one ps_never) pss_nil)
    (pss_cons (ps_if (pt_not (pt_val (pe_callB call_isiT (by rfl) T.f_isinstance PyProof.Rows.boot_isinstance (pa_cons (pv 1) (pa_cons (pe_tup (pa_cons (pe_bltn (v := .ty "list") (u := .type "list") (by rfl) T.f_list (by decide +kernel) (by rfl)) (pa_cons (pe_bltn (v := .ty "tuple") (u := .type "tuple") (by rfl) T.f_tuple (by decide +kernel) (by rfl)) pa_nil))) pa_nil))))) (pss_one ps_never) pss_nil)
    (pss_one (ps_for PassesOwn.never rfl (pi_enumS (by rfl) T.f_enumerate (pv 1)) (pg_tup rfl (pgs_cons (pg_name (i := 3) sc_check_threes.nd rfl (by first | exact Or.inl rfl | exact Or.inr rfl)) (pgs_cons (pg_name (i := 4) sc_check_threes.nd rfl (by first | exact Or.inl rfl | exact Or.inr rfl)) pgs_nil))) (pss_one (ps_if (pt_not (pt_val (pe_cal C_is_three hr_is_three (by rfl) pass0 (pa_cons (pv 0) (pa_cons (pv 4) pa_nil))))) (pss_one ps_never) pss_nil))))))
theorem sc_is_couple : FnScope ["ties", "thing"] ["ties", "thing"] (defScope s_is_couple) := ⟨rfl, rfl, rfl, by decide +kernel, rfl, by decide +kernel, by decide +kernel⟩
def t_is_couple (K : PySem.W.Frag) (sp_is_whole : Sp) : TS :=
    (tSeq (tIfS (tOr (tNot (tB (tCB (rIsiT K) (tCons (tVar 1) (tCons (tTup (tCons (tC (.ty "list")) (tCons (tC (.ty "tuple")) tNil))) tNil))))) (tTest (tOp (rNeD K) (tCB (rLen K) (tCons (tVar 1) tNil)) (tC (.int 2)))))
    (tRet (tC (.bl false)))
    tNext)
    (tRet (tAndV (tCall sp_is_whole [] E0 (tCons (tOp (rIxLT K) (tVar 1) (tC (.int 0))) (tCons (tC (.int 0)) (tCons (tOp rSub (tFld K (tVar 0) "many") (tC (.int 1))) tNil)))) (tCall sp_is_whole [] E0 (tCons (tOp (rIxLT K) (tVar 1) (tC (.int 1))) (tCons (tC (.int 0)) (tCons (tOp rSub (tFld K (tVar 0) "many") (tC (.int 1))) tNil)))))))
theorem ok_is_couple {P : Program} {w : World} {K : PySem.W.Frag} {mg : Str → Option Value} {base : Heap} (T : Tx K mg) {sp_is_whole : Sp} (C_is_whole : Cal P w K mg base CX0 3 "is_whole" ["thing", "low", "high"] sp_is_whole) {sp : Sp} (hl : ∀ vs H Q E, sp vs H Q E → vs.length = 2)
    (tr : ∀ vs H Q E, sp vs H Q E → t_is_couple K sp_is_whole { nx := fun _ H' => Q .non H', rt := Q } (L2.start ["ties", "thing"] vs) H) :
    Cal P w K mg base CX0 4 "_is_couple" ["ties", "thing"] sp := by
  obtain ⟨fd, F⟩ := T.F_is_couple
  have b : Binds K fd ["ties", "thing"] [] := F.bindsN fun _ _ _ _ _ _ us hl => match us, hl with | [_, _], _ => rfl
  refine ⟨⟨fd, ?_, b⟩, F.kp, T.g_is_couple⟩
  refine FunD.ok F sc_is_couple hl fun cdv A outer s H vs Q E hr h => ⟨_, PSs.nox ?_, tr vs H Q E h⟩
  have hr_is_whole : Room 3 _ := hr.mono (by decide)
  have hu64 := hr.units
  unfold t_is_couple
  exact (pss_cons (ps_if (PW.pt (pw_or (pt_not (pt_val (pe_callB call_isiT (by rfl) T.f_isinstance PyProof.Rows.boot_isinstance (pa_cons (pv 1) (pa_cons (pe_tup (pa_cons (pe_bltn (v := .ty "list") (u := .type "list") (by rfl) T.f_list (by decide +kernel) (by rfl)) (pa_cons (pe_bltn (v := .ty "tuple") (u := .type "tuple") (by rfl) T.f_tuple (by decide +kernel) (by rfl)) pa_nil))) pa_nil))))) (pw_or1 (pt_cmpR (op_neD hu64) (pe_callB call_len (by rfl) T.f_len PySem.boot_len (pa_cons (pv 1) pa_nil)) pe_int (nomark _))))) (pss_one (ps_ret pe_bl)) pss_nil)
    (pss_one (ps_ret (pe_and (pe_cal C_is_whole hr_is_whole (by rfl) pass0 (pa_cons (pe_ix ix_LT (pv 1) pe_int (fun _ _ => rfl)) (pa_cons pe_int (pa_cons (pe_op op_sub (pe_fld (pv 0) rfl) pe_int) pa_nil)))) (pe_one (pe_cal C_is_whole hr_is_whole (by rfl) pass0 (pa_cons (pe_ix ix_LT (pv 1) pe_int (fun _ _ => rfl)) (pa_cons pe_int (pa_cons (pe_op op_sub (pe_fld (pv 0) rfl) pe_int) pa_nil)))))))))
theorem sc_Book_init : FnScope ["self", "ties", "barred", "closed", "three", "readings", "reading", "p", "q", "r"] ["self", "ties", "barred"] (defScope s_Book_init) := ⟨rfl, rfl, rfl, by decide +kernel, rfl, by decide +kernel, by decide +kernel⟩
def t_Book_init (K : PySem.W.Frag) (sp_check_threes sp_readings_of : Sp) : TS :=
    (tSeq (tDrop (tCall sp_check_threes [] E0 (tCons (tVar 1) (tCons (tVar 2) (tCons (tC (.str "barred")) tNil)))))
    (tSeq (sFld K (tVar 0) (tVar 1) "ties")
    (tSeq (tAsg tDNewT (gName 3))
    (tSeq (tFor (iSeq K (tVar 2)) (gName 4)
    (tIfS (tB (tDNotIn (tThen (tVar 4) (kTup K)) (tVar 3)))
    (tSeq (tAsg (tCall sp_readings_of [] E0 (tCons (tVar 1) (tCons (tVar 4) tNil))) (gName 5))
    (tFor (iSeq K (tVar 5)) (gName 6)
    (sDPut (tVar 3) (tVar 6) (tOp (rIxLT K) (tVar 5) (tC (.int 0))))))
    tNext))
    (tSeq (sFld K (tVar 0) (tThen (tCB (rSortD K) (tCons (tCB rListT (tCons (tVar 3) tNil)) tNil)) (kTup K)) "barred")
    (tSeq (sFld K (tVar 0) (tThen (tLc (iSeq K (tFld K (tVar 0) "barred")) (gName 4) (tTest (tOp (rEqD K) (tDGet (tVar 3) (tVar 4)) (tVar 4))) (tVar 4) [4]) (kTup K)) "least_barred")
    (sFld K (tVar 0) (tThen (tLc (iRng1 (tCons (tFld K (tVar 1) "many") tNil)) (gName 7) tYes (tThen (tLc (iRng1 (tCons (tFld K (tVar 1) "many") tNil)) (gName 8) tYes (tThen (tLc (iRng1 (tCons (tFld K (tVar 1) "many") tNil)) (gName 9) tYes (tDIn (tTup (tCons (tVar 7) (tCons (tVar 8) (tCons (tVar 9) tNil)))) (tVar 3)) [9]) (kTup K)) [8]) (kTup K)) [7]) (kTup K)) "grid")))))))
theorem ok_Book_init {P : Program} {w : World} {K : PySem.W.Frag} {mg : Str → Option Value} {base : Heap} (T : Tx K mg) {sp_check_threes sp_readings_of : Sp} (C_check_threes : Cal P w K mg base CX0 5 "_check_threes" ["ties", "threes", "what"] sp_check_threes) (C_readings_of : Cal P w K mg base CX0 5 "readings_of" ["ties", "three"] sp_readings_of) {sp : Sp} (hl : ∀ vs H Q E, sp vs H Q E → vs.length = 3)
    (tr : ∀ vs H Q E, sp vs H Q E → t_Book_init K sp_check_threes sp_readings_of { nx := fun _ H' => Q .non H', rt := Q } (L2.start ["self", "ties", "barred", "closed", "three", "readings", "reading", "p", "q", "r"] vs) H) :
    CalC P w K mg base CX0 6 "Book" ["self", "ties", "barred"] sp := by
  obtain ⟨fd, F⟩ := T.F_Book_init
  have b : Binds K fd ["self", "ties", "barred"] [] := binds_all F 0 (by rfl) fun T kV doc pm an cdv ct us its hl hi => match us, its, hl, (show its.length = 1 from hi) with | [_, _, _], [_], _, _ => ⟨_, rfl, rfl⟩
  refine ⟨⟨fd, ?_, b⟩, T.m_Book, T.g_Book⟩
  refine FunD.ok F sc_Book_init hl fun cdv A outer s H vs Q E hr h => ⟨_, PSs.nox ?_, tr vs H Q E h⟩
  have hr_check_threes : Room 5 _ := hr.mono (by decide)
  have hr_readings_of : Room 5 _ := hr.mono (by decide)
  have hu64 := hr.units
  have hu65 := hu65_of hr
  unfold t_Book_init
  exact (pss_cons (ps_expr (pe_cal C_check_threes hr_check_threes (by rfl) pass0 (pa_cons (pv 1) (pa_cons (pv 2) (pa_cons pe_str pa_nil)))))
    (pss_cons (ps_fld (pv 0) (pv 1) rfl)
    (pss_cons (ps_set (i := 3) sc_Book_init.nd rfl (by first | exact Or.inl rfl | exact Or.inr rfl) pe_dnewT)
    (pss_cons (ps_for PassesOwn.never rfl (pi_seq (pv 2)) (pg_name (i := 4) sc_Book_init.nd rfl (by first | exact Or.inl rfl | exact Or.inr rfl)) (pss_one (ps_if (pt_cmp (pc_dnotin (hu_of hr) (pe_tupleOf (by rfl) T.f_tuple (pv 4)) (pv 3))) (pss_cons (ps_set (i := 5) sc_Book_init.nd rfl (by first | exact Or.inl rfl | exact Or.inr rfl) (pe_cal C_readings_of hr_readings_of (by rfl) pass0 (pa_cons (pv 1) (pa_cons (pv 4) pa_nil))))
    (pss_one (ps_for PassesOwn.never rfl (pi_seq (pv 5)) (pg_name (i := 6) sc_Book_init.nd rfl (by first | exact Or.inl rfl | exact Or.inr rfl)) (pss_one (ps_dput (hu_of hr) (pv 3) (pv 6) (pe_ix ix_LT (pv 5) pe_int (fun _ _ => rfl)) rfl))))) pss_nil)))
    (pss_cons (ps_fld (pv 0) (pe_tupleOf (by rfl) T.f_tuple (pe_callB (call_sortedD rfl hu65) (by rfl) T.f_sorted (by decide +kernel) (pa_cons (pe_callTy (call_list_dT rfl) (by rfl) T.f_list (by decide +kernel) (pa_cons (pv 3) pa_nil)) pa_nil))) rfl)
    (pss_cons (ps_fld (pv 0) (pe_tupleOf (by rfl) T.f_tuple (pe_lc (own := [("three", 4)]) (g := (gName 4)) (tt := (tTest (tOp (rEqD K) (tDGet (tVar 3) (tVar 4)) (tVar 4)))) rfl sc_Book_init.nd (pi_seq (pe_fld (pv 0) rfl)) (blkOk_by (by kernel_rfl)) (fun _ _ _ _ _ => (pg_name (i := 4) sc_Book_init.nd rfl (by first | exact Or.inl rfl | exact Or.inr rfl))) (fun _ _ _ _ _ => (pts_one (pt_cmpR (op_eqD hu64) (pe_dget (hu_of hr) (pv 3) (pv 4) (fun _ _ => rfl)) (pv 4) (nomark _)))) (fun _ _ _ _ _ => (pv 4)))) rfl)
    (pss_one (ps_fld (pv 0) (pe_tupleOf (by rfl) T.f_tuple (pe_lc (own := [("p", 7)]) (g := (gName 7)) (tt := tYes) rfl sc_Book_init.nd (pi_range1 (by rfl) T.f_range (pa_cons (pe_fld (pv 1) rfl) pa_nil)) (blkOk_by (by kernel_rfl)) (fun _ _ _ _ _ => (pg_name (i := 7) sc_Book_init.nd rfl (by first | exact Or.inl rfl | exact Or.inr rfl))) (fun _ _ _ _ _ => pts_nil) (fun _ _ _ _ _ => (pe_tupleOf (by rfl) T.f_tuple (pe_lc (own := [("q", 8)]) (g := (gName 8)) (tt := tYes) rfl sc_Book_init.nd (pi_range1 (by rfl) T.f_range (pa_cons (pe_fld (pv 1) rfl) pa_nil)) (blkOk_by (by kernel_rfl)) (fun _ _ _ _ _ => (pg_name (i := 8) sc_Book_init.nd rfl (by first | exact Or.inl rfl | exact Or.inr rfl))) (fun _ _ _ _ _ => pts_nil) (fun _ _ _ _ _ => (pe_tupleOf (by rfl) T.f_tuple (pe_lc (own := [("r", 9)]) (g := (gName 9)) (tt := tYes) rfl sc_Book_init.nd (pi_range1 (by rfl) T.f_range (pa_cons (pe_fld (pv 1) rfl) pa_nil)) (blkOk_by (by kernel_rfl)) (fun _ _ _ _ _ => (pg_name (i := 9) sc_Book_init.nd rfl (by first | exact Or.inl rfl | exact Or.inr rfl))) (fun _ _ _ _ _ => pts_nil) (fun _ _ _ _ _ => (pe_cmp (pc_din (hu_of hr) (pe_tup (pa_cons (pv 7) (pa_cons (pv 8) (pa_cons (pv 9) pa_nil)))) (pv 3)))))))))))) rfl))))))))
theorem sc_Book_check_backs : FnScope ["self", "backs"] ["self", "backs"] (defScope s_Book_check_backs) := ⟨rfl, rfl, rfl, by decide +kernel, rfl, by decide +kernel, by decide +kernel⟩
def t_Book_check_backs (K : PySem.W.Frag) : TS :=
    (tIfS (tTest (tOp (rNeD K) (tVar 1) (tFld K (tFld K (tVar 0) "ties") "backs")))
    tNever
    tNext)
theorem ok_Book_check_backs {P : Program} {w : World} {K : PySem.W.Frag} {mg : Str → Option Value} {base : Heap} (T : Tx K mg) {sp : Sp} (hl : ∀ vs H Q E, sp vs H Q E → vs.length = 2)
    (tr : ∀ vs H Q E, sp vs H Q E → t_Book_check_backs K { nx := fun _ H' => Q .non H', rt := Q } (L2.start ["self", "backs"] vs) H) :
    CalM P w K mg base CX0 3 "Book" "_check_backs" ["self", "backs"] sp := by
  obtain ⟨fd, F⟩ := T.F_Book_check_backs
  have b : Binds K fd ["self", "backs"] [] := F.bindsN fun _ _ _ _ _ _ us hl => match us, hl with | [_, _], _ => rfl
  refine ⟨⟨fd, ?_, b⟩, T.h_Book_check_backs⟩
  refine FunD.ok F sc_Book_check_backs hl fun cdv A outer s H vs Q E hr h => ⟨_, PSs.nox ?_, tr vs H Q E h⟩
  have hu64 := hr.units
  unfold t_Book_check_backs
  exact (pss_one (ps_if (pt_cmpR (op_neD hu64) (pv 1) (pe_fld (pe_fld (pv 0) rfl) rfl) (nomark _)) (pss_one ps_never) pss_nil))
theorem sc_Book_company_fault : FnScope ["self", "company", "many", "i", "j", "line", "k"] ["self", "company"] (defScope s_Book_company_fault) := ⟨rfl, rfl, rfl, by decide +kernel, rfl, by decide +kernel, by decide +kernel⟩
def t_Book_company_fault (K : PySem.W.Frag) (sp_Book_check_backs sp_Company_len sp_Company_tie_at : Sp) : TS :=
    (tSeq (tDrop (tMeth (He.ga K "Book") "_check_backs" sp_Book_check_backs [] E0 (tVar 0) (tCons (tFld K (tFld K (tVar 1) "ties") "backs") tNil)))
    (tSeq (tAsg (tCB (rOwnLen (He.ga K "Company") sp_Company_len) (tCons (tVar 1) tNil)) (gName 2))
    (tSeq (tFor (iRng1 (tCons (tVar 2) tNil)) (gName 3)
    (tFor (iRng2 (tCons (tOp rAdd (tVar 3) (tC (.int 1))) (tCons (tVar 2) tNil))) (gName 4)
    (tSeq (tAsg (tOp (rIxLT K) (tFld K (tVar 0) "grid") (tMeth (He.ga K "Company") "tie_at" sp_Company_tie_at [] E0 (tVar 1) (tCons (tVar 3) (tCons (tVar 4) tNil)))) (gName 5))
    (tFor (iRng2 (tCons (tOp rAdd (tVar 4) (tC (.int 1))) (tCons (tVar 2) tNil))) (gName 6)
    (tIfS (tB (tOp (rIxLT K) (tOp (rIxLT K) (tVar 5) (tMeth (He.ga K "Company") "tie_at" sp_Company_tie_at [] E0 (tVar 1) (tCons (tVar 4) (tCons (tVar 6) tNil)))) (tMeth (He.ga K "Company") "tie_at" sp_Company_tie_at [] E0 (tVar 1) (tCons (tVar 3) (tCons (tVar 6) tNil)))))
    (tRet (tTup (tCons (tOp (rIxLT K) (tFld K (tVar 1) "guests") (tVar 3)) (tCons (tOp (rIxLT K) (tFld K (tVar 1) "guests") (tVar 4)) (tCons (tOp (rIxLT K) (tFld K (tVar 1) "guests") (tVar 6)) tNil)))))
    tNext)))))
    (tRet (tC .non)))))
theorem ok_Book_company_fault {P : Program} {w : World} {K : PySem.W.Frag} {mg : Str → Option Value} {base : Heap} (T : Tx K mg) {sp_Book_check_backs sp_Company_len sp_Company_tie_at : Sp} (C_Book_check_backs : CalM P w K mg base CX0 3 "Book" "_check_backs" ["self", "backs"] sp_Book_check_backs) (C_Company_len : CalM P w K mg base CX0 3 "Company" "__len__" ["self"] sp_Company_len) (C_Company_tie_at : CalM P w K mg base CX0 3 "Company" "tie_at" ["self", "one", "other"] sp_Company_tie_at) {sp : Sp} (hl : ∀ vs H Q E, sp vs H Q E → vs.length = 2)
    (tr : ∀ vs H Q E, sp vs H Q E → t_Book_company_fault K sp_Book_check_backs sp_Company_len sp_Company_tie_at { nx := fun _ H' => Q .non H', rt := Q } (L2.start ["self", "company", "many", "i", "j", "line", "k"] vs) H) :
    CalM P w K mg base CX0 6 "Book" "company_fault" ["self", "company"] sp := by
  obtain ⟨fd, F⟩ := T.F_Book_company_fault
  have b : Binds K fd ["self", "company"] [] := F.bindsN fun _ _ _ _ _ _ us hl => match us, hl with | [_, _], _ => rfl
  refine ⟨⟨fd, ?_, b⟩, T.h_Book_company_fault⟩
  refine FunD.ok F sc_Book_company_fault hl fun cdv A outer s H vs Q E hr h => ⟨_, PSs.nox ?_, tr vs H Q E h⟩
  have hr_Book_check_backs : Room 3 _ := hr.mono (by decide)
  have hr_Company_len : Room 3 _ := hr.mono (by decide)
  have hr_Company_tie_at : Room 3 _ := hr.mono (by decide)
  have hu64 := hr.units
  unfold t_Book_company_fault
  exact (pss_cons (ps_expr (pe_calM C_Book_check_backs T.c_Book hr_Book_check_backs pass0 (pv 0) (pa_cons (pe_fld (pe_fld (pv 1) rfl) rfl) pa_nil)))
    (pss_cons (ps_set (i := 2) sc_Book_company_fault.nd rfl (by first | exact Or.inl rfl | exact Or.inr rfl) (pe_callB (by exact call_ownLen C_Company_len (hr.mono (by decide))) (by rfl) T.f_len PySem.boot_len (pa_cons (pv 1) pa_nil)))
    (pss_cons (ps_for PassesOwn.never rfl (pi_range1 (by rfl) T.f_range (pa_cons (pv 2) pa_nil)) (pg_name (i := 3) sc_Book_company_fault.nd rfl (by first | exact Or.inl rfl | exact Or.inr rfl)) (pss_one (ps_for PassesOwn.never rfl (pi_range2 (by rfl) T.f_range (pa_cons (pe_op op_add (pv 3) pe_int) (pa_cons (pv 2) pa_nil))) (pg_name (i := 4) sc_Book_company_fault.nd rfl (by first | exact Or.inl rfl | exact Or.inr rfl)) (pss_cons (ps_set (i := 5) sc_Book_company_fault.nd rfl (by first | exact Or.inl rfl | exact Or.inr rfl) (pe_ix ix_LT (pe_fld (pv 0) rfl) (pe_calM C_Company_tie_at T.c_Company hr_Company_tie_at pass0 (pv 1) (pa_cons (pv 3) (pa_cons (pv 4) pa_nil))) (fun _ _ => rfl)))
    (pss_one (ps_for PassesOwn.never rfl (pi_range2 (by rfl) T.f_range (pa_cons (pe_op op_add (pv 4) pe_int) (pa_cons (pv 2) pa_nil))) (pg_name (i := 6) sc_Book_company_fault.nd rfl (by first | exact Or.inl rfl | exact Or.inr rfl)) (pss_one (ps_if (pt_val (pe_ix ix_LT (pe_ix ix_LT (pv 5) (pe_calM C_Company_tie_at T.c_Company hr_Company_tie_at pass0 (pv 1) (pa_cons (pv 4) (pa_cons (pv 6) pa_nil))) (fun _ _ => rfl)) (pe_calM C_Company_tie_at T.c_Company hr_Company_tie_at pass0 (pv 1) (pa_cons (pv 3) (pa_cons (pv 6) pa_nil))) (fun _ _ => rfl))) (pss_one (ps_ret (pe_tup (pa_cons (pe_ix ix_LT (pe_fld (pv 1) rfl) (pv 3) (fun _ _ => rfl)) (pa_cons (pe_ix ix_LT (pe_fld (pv 1) rfl) (pv 4) (fun _ _ => rfl)) (pa_cons (pe_ix ix_LT (pe_fld (pv 1) rfl) (pv 6) (fun _ _ => rfl)) pa_nil)))))) pss_nil))))))))
    (pss_one (ps_ret pe_non)))))
theorem sc_Book_lets : FnScope ["self", "company"] ["self", "company"] (defScope s_Book_lets) := ⟨rfl, rfl, rfl, by decide +kernel, rfl, by decide +kernel, by decide +kernel⟩
def t_Book_lets (K : PySem.W.Frag) (sp_Book_company_fault : Sp) : TS :=
    (tRet (tOp rIs (tMeth (He.ga K "Book") "company_fault" sp_Book_company_fault [] E0 (tVar 0) (tCons (tVar 1) tNil)) (tC .non)))
theorem ok_Book_lets {P : Program} {w : World} {K : PySem.W.Frag} {mg : Str → Option Value} {base : Heap} (T : Tx K mg) {sp_Book_company_fault : Sp} (C_Book_company_fault : CalM P w K mg base CX0 6 "Book" "company_fault" ["self", "company"] sp_Book_company_fault) {sp : Sp} (hl : ∀ vs H Q E, sp vs H Q E → vs.length = 2)
    (tr : ∀ vs H Q E, sp vs H Q E → t_Book_lets K sp_Book_company_fault { nx := fun _ H' => Q .non H', rt := Q } (L2.start ["self", "company"] vs) H) :
    CalM P w K mg base CX0 7 "Book" "lets" ["self", "company"] sp := by
  obtain ⟨fd, F⟩ := T.F_Book_lets
  have b : Binds K fd ["self", "company"] [] := F.bindsN fun _ _ _ _ _ _ us hl => match us, hl with | [_, _], _ => rfl
  refine ⟨⟨fd, ?_, b⟩, T.h_Book_lets⟩
  refine FunD.ok F sc_Book_lets hl fun cdv A outer s H vs Q E hr h => ⟨_, PSs.nox ?_, tr vs H Q E h⟩
  have hr_Book_company_fault : Room 6 _ := hr.mono (by decide)
  have hu64 := hr.units
  unfold t_Book_lets
  exact (pss_one (ps_ret (pe_cmpR op_isN (pe_calM C_Book_company_fault T.c_Book hr_Book_company_fault pass0 (pv 0) (pa_cons (pv 1) pa_nil)) pe_non (nomark _))))
theorem sc_Book_eq : FnScope ["self", "other"] ["self", "other"] (defScope s_Book_eq) := ⟨rfl, rfl, rfl, by decide +kernel, rfl, by decide +kernel, by decide +kernel⟩
def t_Book_eq (K : PySem.W.Frag) (sp_Ties_eq : Sp) : TS :=
    (tRet (tAndV (tCB (rIsi K) (tCons (tVar 1) (tCons (tC (.ref (He.ga K "Book"))) tNil))) (tAndV (tOp (rOwnEq (He.ga K "Ties") sp_Ties_eq) (tFld K (tVar 0) "ties") (tFld K (tVar 1) "ties")) (tOp (rEqD K) (tFld K (tVar 0) "barred") (tFld K (tVar 1) "barred")))))
theorem ok_Book_eq {P : Program} {w : World} {K : PySem.W.Frag} {mg : Str → Option Value} {base : Heap} (T : Tx K mg) {sp_Ties_eq : Sp} (C_Ties_eq : CalM P w K mg base CX0 3 "Ties" "__eq__" ["self", "other"] sp_Ties_eq) {sp : Sp} (hl : ∀ vs H Q E, sp vs H Q E → vs.length = 2)
    (tr : ∀ vs H Q E, sp vs H Q E → t_Book_eq K sp_Ties_eq { nx := fun _ H' => Q .non H', rt := Q } (L2.start ["self", "other"] vs) H) :
    CalM P w K mg base CX0 6 "Book" "__eq__" ["self", "other"] sp := by
  obtain ⟨fd, F⟩ := T.F_Book_eq
  have b : Binds K fd ["self", "other"] [] := F.bindsN fun _ _ _ _ _ _ us hl => match us, hl with | [_, _], _ => rfl
  refine ⟨⟨fd, ?_, b⟩, T.h_Book_eq⟩
  refine FunD.ok F sc_Book_eq hl fun cdv A outer s H vs Q E hr h => ⟨_, PSs.nox ?_, tr vs H Q E h⟩
  have hr_Ties_eq : Room 3 _ := hr.mono (by decide)
  have hu64 := hr.units
  unfold t_Book_eq
  exact (pss_one (ps_ret (pe_and (pe_callB call_isi (by rfl) T.f_isinstance PyProof.Rows.boot_isinstance (pa_cons (pv 1) (pa_cons (pe_glob (by rfl) T.g_Book (by rfl)) pa_nil))) (pe_and (pe_cmpR (by exact op_ownEq C_Ties_eq (hr.mono (by decide))) (pe_fld (pv 0) rfl) (pe_fld (pv 1) rfl) (nomark _)) (pe_one (pe_cmpR (op_eqD hu64) (pe_fld (pv 0) rfl) (pe_fld (pv 1) rfl) (nomark _)))))))
theorem sc_all_names : FnScope ["ties", "rows", "place", "names", "name"] ["ties"] (defScope s_all_names) := ⟨rfl, rfl, rfl, by decide +kernel, rfl, by decide +kernel, by decide +kernel⟩
def t_all_names (K : PySem.W.Frag) (sp_keeps_backs : Sp) : TS :=
    (tSeq (tAsg (tLst (tCons (tTup tNil) tNil)) (gName 1))
    (tSeq (tFor (iRng1 (tCons (tFld K (tVar 0) "many") tNil)) (gName 2)
    (tAsg (tLc2 (iSeq K (tVar 1)) (gName 3) tYes (iRng1 (tCons (tFld K (tVar 0) "many") tNil)) (gName 4) (tTest (tOp (rIn K true) (tVar 4) (tVar 3))) (tTup (tStar K (tVar 3) (tCons (tVar 4) tNil))) [3, 4] [4]) (gName 1)))
    (tRet (tLc (iSeq K (tVar 1)) (gName 3) (tB (tCall sp_keeps_backs [] E0 (tCons (tVar 0) (tCons (tVar 3) tNil)))) (tVar 3) [3]))))
theorem ok_all_names {P : Program} {w : World} {K : PySem.W.Frag} {mg : Str → Option Value} {base : Heap} (T : Tx K mg) {sp_keeps_backs : Sp} (C_keeps_backs : Cal P w K mg base CX0 3 "_keeps_backs" ["ties", "names"] sp_keeps_backs) {sp : Sp} (hl : ∀ vs H Q E, sp vs H Q E → vs.length = 1)
    (tr : ∀ vs H Q E, sp vs H Q E → t_all_names K sp_keeps_backs { nx := fun _ H' => Q .non H', rt := Q } (L2.start ["ties", "rows", "place", "names", "name"] vs) H) :
    Cal P w K mg base CX0 4 "_all_names" ["ties"] sp := by
  obtain ⟨fd, F⟩ := T.F_all_names
  have b : Binds K fd ["ties"] [] := F.bindsN fun _ _ _ _ _ _ us hl => match us, hl with | [_], _ => rfl
  refine ⟨⟨fd, ?_, b⟩, F.kp, T.g_all_names⟩
  refine FunD.ok F sc_all_names hl fun cdv A outer s H vs Q E hr h => ⟨_, PSs.nox ?_, tr vs H Q E h⟩
  have hr_keeps_backs : Room 3 _ := hr.mono (by decide)
  have hu64 := hr.units
  unfold t_all_names
  exact (pss_cons (ps_set (i := 1) sc_all_names.nd rfl (by first | exact Or.inl rfl | exact Or.inr rfl) (pe_lst (pa_cons (pe_tup pa_nil) pa_nil)))
    (pss_cons (ps_for PassesOwn.never rfl (pi_range1 (by rfl) T.f_range (pa_cons (pe_fld (pv 0) rfl) pa_nil)) (pg_name (i := 2) sc_all_names.nd rfl (by first | exact Or.inl rfl | exact Or.inr rfl)) (pss_one (ps_setLc2 (i := 1) (own := [("names", 3), ("name", 4)]) (g := (gName 3)) (tt := tYes) (vs1 := [4]) (g1 := (gName 4)) (tt1 := (tTest (tOp (rIn K true) (tVar 4) (tVar 3)))) rfl sc_all_names.nd rfl rfl (sw_true rfl rfl rfl (by kernel_rfl)) (pi_seq (pv 1)) (blkOk_by (by kernel_rfl)) (by decide) (fun _ _ _ _ _ => (pg_name (i := 3) sc_all_names.nd rfl (by first | exact Or.inl rfl | exact Or.inr rfl))) (fun _ _ _ _ _ => pts_nil) (fun _ _ _ _ _ => (pi_range1 (by rfl) T.f_range (pa_cons (pe_fld (pv 0) rfl) pa_nil))) (fun _ _ _ _ _ => (pg_name (i := 4) sc_all_names.nd rfl (by first | exact Or.inl rfl | exact Or.inr rfl))) (fun _ _ _ _ _ => (pts_one (pt_cmpR op_notIn_seq (pv 4) (pv 3) (by rfl)))) (fun _ _ _ _ _ => (pe_tup (pa_star (pv 3) (pa_cons (pv 4) pa_nil)))))))
    (pss_one (ps_ret (pe_lc (own := [("names", 3)]) (g := (gName 3)) (tt := (tB (tCall sp_keeps_backs [] E0 (tCons (tVar 0) (tCons (tVar 3) tNil))))) rfl sc_all_names.nd (pi_seq (pv 1)) (blkOk_by (by kernel_rfl)) (fun _ _ _ _ _ => (pg_name (i := 3) sc_all_names.nd rfl (by first | exact Or.inl rfl | exact Or.inr rfl))) (fun _ _ _ _ _ => (pts_one (pt_val (pe_cal C_keeps_backs hr_keeps_backs (by rfl) pass0 (pa_cons (pv 0) (pa_cons (pv 3) pa_nil)))))) (fun _ _ _ _ _ => (pv 3)))))))
theorem sc_keeps_backs : FnScope ["ties", "names", "place"] ["ties", "names"] (defScope s_keeps_backs) := ⟨rfl, rfl, rfl, by decide +kernel, rfl, by decide +kernel, by decide +kernel⟩
def t_keeps_backs (K : PySem.W.Frag) : TS :=
    (tSeq (tFor (iRng1 (tCons (tFld K (tVar 0) "many") tNil)) (gName 2)
    (tIfS (tTest (tOp (rNeD K) (tOp (rIxLT K) (tFld K (tVar 0) "backs") (tOp (rIxLT K) (tVar 1) (tVar 2))) (tOp (rIxLT K) (tVar 1) (tOp (rIxLT K) (tFld K (tVar 0) "backs") (tVar 2)))))
    (tRet (tC (.bl false)))
    tNext))
    (tRet (tC (.bl true))))
theorem ok_keeps_backs {P : Program} {w : World} {K : PySem.W.Frag} {mg : Str → Option Value} {base : Heap} (T : Tx K mg) {sp : Sp} (hl : ∀ vs H Q E, sp vs H Q E → vs.length = 2)
    (tr : ∀ vs H Q E, sp vs H Q E → t_keeps_backs K { nx := fun _ H' => Q .non H', rt := Q } (L2.start ["ties", "names", "place"] vs) H) :
    Cal P w K mg base CX0 3 "_keeps_backs" ["ties", "names"] sp := by
  obtain ⟨fd, F⟩ := T.F_keeps_backs
  have b : Binds K fd ["ties", "names"] [] := F.bindsN fun _ _ _ _ _ _ us hl => match us, hl with | [_, _], _ => rfl
  refine ⟨⟨fd, ?_, b⟩, F.kp, T.g_keeps_backs⟩
  refine FunD.ok F sc_keeps_backs hl fun cdv A outer s H vs Q E hr h => ⟨_, PSs.nox ?_, tr vs H Q E h⟩
  have hu64 := hr.units
  unfold t_keeps_backs
  exact (pss_cons (ps_for PassesOwn.never rfl (pi_range1 (by rfl) T.f_range (pa_cons (pe_fld (pv 0) rfl) pa_nil)) (pg_name (i := 2) sc_keeps_backs.nd rfl (by first | exact Or.inl rfl | exact Or.inr rfl)) (pss_one (ps_if (pt_cmpR (op_neD hu64) (pe_ix ix_LT (pe_fld (pv 0) rfl) (pe_ix ix_LT (pv 1) (pv 2) (fun _ _ => rfl)) (fun _ _ => rfl)) (pe_ix ix_LT (pv 1) (pe_ix ix_LT (pe_fld (pv 0) rfl) (pv 2) (fun _ _ => rfl)) (fun _ _ => rfl)) (nomark _)) (pss_one (ps_ret pe_bl)) pss_nil)))
    (pss_one (ps_ret pe_bl)))
end Z
set_option Elab.async false
set_option linter.all false
set_option maxRecDepth 100000
set_option maxHeartbeats 4000000
namespace Z
open PySem PySem.Spec PyProof.Rows L2
open StX (tStar pa_star)
theorem sc_law_mix : FnScope ["_law_number", "_law_turn", "_law_once", "_law_twice"] ["_law_number", "_law_turn"] (defScope s_law_mix) := ⟨rfl, rfl, rfl, by decide +kernel, rfl, by decide +kernel, by decide +kernel⟩
def t_law_mix (K : PySem.W.Frag) : TS :=
    (tSeq (tAsg (tOp rMod (tCB rInt1 (tCons (tOp rAdd (tOp rAdd (tOp rMul (tVar 0) (tC (.int 48271))) (tOp rMul (tVar 1) (tC (.int 16807)))) (tC (.int 11))) tNil)) (tC (.int 2147483647))) (gName 2))
    (tSeq (tAsg (tOp rMod (tCB rInt1 (tCons (tOp rAdd (tOp rAdd (tOp rMul (tVar 2) (tVar 2)) (tOp rMul (tOp rFdiv (tVar 2) (tC (.int 127))) (tC (.int 40692)))) (tOp rMul (tVar 1) (tC (.int 69621)))) tNil)) (tC (.int 2147483399))) (gName 3))
    (tRet (tOp rFdiv (tOp rMod (tCB rInt1 (tCons (tOp rAdd (tOp rFdiv (tOp rMul (tVar 3) (tVar 3)) (tC (.int 1009))) (tVar 2)) tNil)) (tC (.int 2147483563))) (tC (.int 16))))))
theorem ok_law_mix {P : Program} {w : World} {K : PySem.W.Frag} {mg : Str → Option Value} {base : Heap} (T : Tx K mg) {sp : Sp} (hl : ∀ vs H Q E, sp vs H Q E → vs.length = 2)
    (tr : ∀ vs H Q E, sp vs H Q E → t_law_mix K { nx := fun _ H' => Q .non H', rt := Q } (L2.start ["_law_number", "_law_turn", "_law_once", "_law_twice"] vs) H) :
    Cal P w K mg base CX0 3 "_law_mix" ["_law_number", "_law_turn"] sp := by
  obtain ⟨fd, F⟩ := T.F_law_mix
  have b : Binds K fd ["_law_number", "_law_turn"] [] := F.bindsN fun _ _ _ _ _ _ us hl => match us, hl with | [_, _], _ => rfl
  refine ⟨⟨fd, ?_, b⟩, F.kp, T.g_law_mix⟩
  refine FunD.ok F sc_law_mix hl fun cdv A outer s H vs Q E hr h => ⟨_, PSs.nox ?_, tr vs H Q E h⟩
  have hu64 := hr.units
  unfold t_law_mix
  exact (pss_cons (ps_set (i := 2) sc_law_mix.nd rfl (by first | exact Or.inl rfl | exact Or.inr rfl) (pe_op op_mod (pe_callTy call_int1 (by rfl) T.f_int (by decide +kernel) (pa_cons (pe_op op_add (pe_op op_add (pe_op op_mul (pv 0) pe_int) (pe_op op_mul (pv 1) pe_int)) pe_int) pa_nil)) pe_int))
    (pss_cons (ps_set (i := 3) sc_law_mix.nd rfl (by first | exact Or.inl rfl | exact Or.inr rfl) (pe_op op_mod (pe_callTy call_int1 (by rfl) T.f_int (by decide +kernel) (pa_cons (pe_op op_add (pe_op op_add (pe_op op_mul (pv 2) (pv 2)) (pe_op op_mul (pe_op op_fdivN (pv 2) pe_int) pe_int)) (pe_op op_mul (pv 1) pe_int)) pa_nil)) pe_int))
    (pss_one (ps_ret (pe_op op_fdivN (pe_op op_mod (pe_callTy call_int1 (by rfl) T.f_int (by decide +kernel) (pa_cons (pe_op op_add (pe_op op_fdivN (pe_op op_mul (pv 3) (pv 3)) pe_int) (pv 2)) pa_nil)) pe_int) pe_int)))))
theorem sc_law_hand : FnScope ["_law_script", "_law_total", "_law_k", "_law_cell"] ["_law_script"] (defScope s_law_hand) := ⟨rfl, rfl, rfl, by decide +kernel, rfl, by decide +kernel, by decide +kernel⟩
def t_law_hand (K : PySem.W.Frag) : TS :=
    (tSeq (tAsg (tC (.int 0)) (gName 1))
    (tSeq (tFor (iEnumS K (tVar 0)) (gTup K 2 (gCons (gName 2) (gCons (gName 3) gNil)))
    (tAsg (tOp rMod (tCB rInt1 (tCons (tOp rAdd (tOp rMul (tVar 1) (tC (.int 31))) (tOp rMul (tCB rInt1 (tCons (tVar 3) tNil)) (tOp rAdd (tVar 2) (tC (.int 7))))) tNil)) (tC (.int 2147483629))) (gName 1)))
    (tRet (tLst (tCons (tLc (iSeq K (tVar 0)) (gName 3) tYes (tCB rAbs (tCons (tCB rInt1 (tCons (tVar 3) tNil)) tNil)) [3]) (tCons (tC (.int 0)) (tCons (tC (.int 0)) (tCons (tVar 1) tNil))))))))
theorem ok_law_hand {P : Program} {w : World} {K : PySem.W.Frag} {mg : Str → Option Value} {base : Heap} (T : Tx K mg) {sp : Sp} (hl : ∀ vs H Q E, sp vs H Q E → vs.length = 1)
    (tr : ∀ vs H Q E, sp vs H Q E → t_law_hand K { nx := fun _ H' => Q .non H', rt := Q } (L2.start ["_law_script", "_law_total", "_law_k", "_law_cell"] vs) H) :
    Cal P w K mg base CX0 3 "_law_hand" ["_law_script"] sp := by
  obtain ⟨fd, F⟩ := T.F_law_hand
  have b : Binds K fd ["_law_script"] [] := F.bindsN fun _ _ _ _ _ _ us hl => match us, hl with | [_], _ => rfl
  refine ⟨⟨fd, ?_, b⟩, F.kp, T.g_law_hand⟩
  refine FunD.ok F sc_law_hand hl fun cdv A outer s H vs Q E hr h => ⟨_, PSs.nox ?_, tr vs H Q E h⟩
  have hu64 := hr.units
  unfold t_law_hand
  exact (pss_cons (ps_set (i := 1) sc_law_hand.nd rfl (by first | exact Or.inl rfl | exact Or.inr rfl) pe_int)
    (pss_cons (ps_for PassesOwn.never rfl (pi_enumS (by rfl) T.f_enumerate (pv 0)) (pg_tup rfl (pgs_cons (pg_name (i := 2) sc_law_hand.nd rfl (by first | exact Or.inl rfl | exact Or.inr rfl)) (pgs_cons (pg_name (i := 3) sc_law_hand.nd rfl (by first | exact Or.inl rfl | exact Or.inr rfl)) pgs_nil))) (pss_one (ps_set (i := 1) sc_law_hand.nd rfl (by first | exact Or.inl rfl | exact Or.inr rfl) (pe_op op_mod (pe_callTy call_int1 (by rfl) T.f_int (by decide +kernel) (pa_cons (pe_op op_add (pe_op op_mul (pv 1) pe_int) (pe_op op_mul (pe_callTy call_int1 (by rfl) T.f_int (by decide +kernel) (pa_cons (pv 3) pa_nil)) (pe_op op_add (pv 2) pe_int))) pa_nil)) pe_int))))
    (pss_one (ps_ret (pe_lst (pa_cons (pe_lc (own := [("_law_cell", 3)]) (g := (gName 3)) (tt := tYes) rfl sc_law_hand.nd (pi_seq (pv 0)) (blkOk_by (by kernel_rfl)) (fun _ _ _ _ _ => (pg_name (i := 3) sc_law_hand.nd rfl (by first | exact Or.inl rfl | exact Or.inr rfl))) (fun _ _ _ _ _ => pts_nil) (fun _ _ _ _ _ => (pe_callB call_abs (by rfl) T.f_abs (by decide +kernel) (pa_cons (pe_callTy call_int1 (by rfl) T.f_int (by decide +kernel) (pa_cons (pv 3) pa_nil)) pa_nil)))) (pa_cons pe_int (pa_cons pe_int (pa_cons (pv 1) pa_nil)))))))))
theorem sc_law_draw : FnScope ["_law_hand_here", "_law_many", "_law_cell", "_law_rest"] ["_law_hand_here", "_law_many"] (defScope s_law_draw) := ⟨rfl, rfl, rfl, by decide +kernel, rfl, by decide +kernel, by decide +kernel⟩
def t_law_draw (K : PySem.W.Frag) (sp_law_mix : Sp) : TS :=
    (tSeq (tIfS (tAnd (tTest (tOp (rEqD K) (tOp (rIxLT K) (tVar 0) (tC (.int 2))) (tC (.int 0)))) (tTest (tOp rLt (tOp (rIxLT K) (tVar 0) (tC (.int 1))) (tCB (rLen K) (tCons (tOp (rIxLT K) (tVar 0) (tC (.int 0))) tNil)))))
    (tSeq (tAsg (tOp (rIxLT K) (tOp (rIxLT K) (tVar 0) (tC (.int 0))) (tOp (rIxLT K) (tVar 0) (tC (.int 1)))) (gName 2))
    (tSeq (tAsg (tOp rAdd (tOp (rIxLT K) (tVar 0) (tC (.int 1))) (tC (.int 1))) (gSub (tVar 0) (tC (.int 1)) rSetL))
    (tSeq (tIfS (tTest (tOp rLt (tVar 2) (tOp rPow (tC (.int 10)) (tC (.int 18)))))
    (tRet (tOp rMod (tCB rInt1 (tCons (tCall sp_law_mix [] E0 (tCons (tOp rMod (tCB rInt1 (tCons (tVar 2) tNil)) (tC (.int 2147483647))) (tCons (tOp (rIxLT K) (tVar 0) (tC (.int 1))) tNil))) tNil)) (tVar 1)))
    tNext)
    (tAsg (tVar 2) (gSub (tVar 0) (tC (.int 2)) rSetL)))))
    tNext)
    (tSeq (tIfS (tTest (tOp rGt (tOp (rIxLT K) (tVar 0) (tC (.int 2))) (tC (.int 0))))
    (tSeq (tAsg (tOp (rIxLT K) (tVar 0) (tC (.int 2))) (gName 3))
    (tSeq (tAsg (tOp rFdiv (tVar 3) (tVar 1)) (gSub (tVar 0) (tC (.int 2)) rSetL))
    (tRet (tOp rMod (tCB rInt1 (tCons (tVar 3) tNil)) (tVar 1)))))
    tNext)
    (tSeq (tAsg (tOp rMod (tCB rInt1 (tCons (tOp rAdd (tOp (rIxLT K) (tVar 0) (tC (.int 3))) (tC (.int 1))) tNil)) (tC (.int 2147483629))) (gSub (tVar 0) (tC (.int 3)) rSetL))
    (tRet (tOp rMod (tCB rInt1 (tCons (tCall sp_law_mix [] E0 (tCons (tOp (rIxLT K) (tVar 0) (tC (.int 3))) (tCons (tOp (rIxLT K) (tVar 0) (tC (.int 1))) tNil))) tNil)) (tVar 1))))))
theorem ok_law_draw {P : Program} {w : World} {K : PySem.W.Frag} {mg : Str → Option Value} {base : Heap} (T : Tx K mg) {sp_law_mix : Sp} (C_law_mix : Cal P w K mg base CX0 3 "_law_mix" ["_law_number", "_law_turn"] sp_law_mix) {sp : Sp} (hl : ∀ vs H Q E, sp vs H Q E → vs.length = 2)
    (tr : ∀ vs H Q E, sp vs H Q E → t_law_draw K sp_law_mix { nx := fun _ H' => Q .non H', rt := Q } (L2.start ["_law_hand_here", "_law_many", "_law_cell", "_law_rest"] vs) H) :
    Cal P w K mg base CX0 4 "_law_draw" ["_law_hand_here", "_law_many"] sp := by
  obtain ⟨fd, F⟩ := T.F_law_draw
  have b : Binds K fd ["_law_hand_here", "_law_many"] [] := F.bindsN fun _ _ _ _ _ _ us hl => match us, hl with | [_, _], _ => rfl
  refine ⟨⟨fd, ?_, b⟩, F.kp, T.g_law_draw⟩
  refine FunD.ok F sc_law_draw hl fun cdv A outer s H vs Q E hr h => ⟨_, PSs.nox ?_, tr vs H Q E h⟩
  have hr_law_mix : Room 3 _ := hr.mono (by decide)
  have hu64 := hr.units
  unfold t_law_draw
  exact (pss_cons (ps_if (PW.pt (pw_and (pt_cmpR (op_eqD hu64) (pe_ix ix_LT (pv 0) pe_int (fun _ _ => rfl)) pe_int (nomark _)) (pw_and1 (pt_cmpR op_lt (pe_ix ix_LT (pv 0) pe_int (fun _ _ => rfl)) (pe_callB call_len (by rfl) T.f_len PySem.boot_len (pa_cons (pe_ix ix_LT (pv 0) pe_int (fun _ _ => rfl)) pa_nil)) (nomark _))))) (pss_cons (ps_set (i := 2) sc_law_draw.nd rfl (by first | exact Or.inl rfl | exact Or.inr rfl) (pe_ix ix_LT (pe_ix ix_LT (pv 0) pe_int (fun _ _ => rfl)) (pe_ix ix_LT (pv 0) pe_int (fun _ _ => rfl)) (fun _ _ => rfl)))
    (pss_cons (ps_asg (pe_op op_add (pe_ix ix_LT (pv 0) pe_int (fun _ _ => rfl)) pe_int) (pg_sub (pv 0) pe_int set_list))
    (pss_cons (ps_if (pt_cmpR op_lt (pv 2) (pe_op op_pow pe_int pe_int) (nomark _)) (pss_one (ps_ret (pe_op op_mod (pe_callTy call_int1 (by rfl) T.f_int (by decide +kernel) (pa_cons (pe_cal C_law_mix hr_law_mix (by rfl) pass0 (pa_cons (pe_op op_mod (pe_callTy call_int1 (by rfl) T.f_int (by decide +kernel) (pa_cons (pv 2) pa_nil)) pe_int) (pa_cons (pe_ix ix_LT (pv 0) pe_int (fun _ _ => rfl)) pa_nil))) pa_nil)) (pv 1)))) pss_nil)
    (pss_one (ps_asg (pv 2) (pg_sub (pv 0) pe_int set_list)))))) pss_nil)
    (pss_cons (ps_if (pt_cmpR op_gt (pe_ix ix_LT (pv 0) pe_int (fun _ _ => rfl)) pe_int (nomark _)) (pss_cons (ps_set (i := 3) sc_law_draw.nd rfl (by first | exact Or.inl rfl | exact Or.inr rfl) (pe_ix ix_LT (pv 0) pe_int (fun _ _ => rfl)))
    (pss_cons (ps_asg (pe_op op_fdivN (pv 3) (pv 1)) (pg_sub (pv 0) pe_int set_list))
    (pss_one (ps_ret (pe_op op_mod (pe_callTy call_int1 (by rfl) T.f_int (by decide +kernel) (pa_cons (pv 3) pa_nil)) (pv 1)))))) pss_nil)
    (pss_cons (ps_asg (pe_op op_mod (pe_callTy call_int1 (by rfl) T.f_int (by decide +kernel) (pa_cons (pe_op op_add (pe_ix ix_LT (pv 0) pe_int (fun _ _ => rfl)) pe_int) pa_nil)) pe_int) (pg_sub (pv 0) pe_int set_list))
    (pss_one (ps_ret (pe_op op_mod (pe_callTy call_int1 (by rfl) T.f_int (by decide +kernel) (pa_cons (pe_cal C_law_mix hr_law_mix (by rfl) pass0 (pa_cons (pe_ix ix_LT (pv 0) pe_int (fun _ _ => rfl)) (pa_cons (pe_ix ix_LT (pv 0) pe_int (fun _ _ => rfl)) pa_nil))) pa_nil)) (pv 1)))))))
theorem sc_law_pick : FnScope ["_law_hand_here", "_law_things"] ["_law_hand_here", "_law_things"] (defScope s_law_pick) := ⟨rfl, rfl, rfl, by decide +kernel, rfl, by decide +kernel, by decide +kernel⟩
def t_law_pick (K : PySem.W.Frag) (sp_law_draw : Sp) : TS :=
    (tRet (tOp (rIxLT K) (tVar 1) (tCall sp_law_draw [] E0 (tCons (tVar 0) (tCons (tCB (rLen K) (tCons (tVar 1) tNil)) tNil)))))
theorem ok_law_pick {P : Program} {w : World} {K : PySem.W.Frag} {mg : Str → Option Value} {base : Heap} (T : Tx K mg) {sp_law_draw : Sp} (C_law_draw : Cal P w K mg base CX0 4 "_law_draw" ["_law_hand_here", "_law_many"] sp_law_draw) {sp : Sp} (hl : ∀ vs H Q E, sp vs H Q E → vs.length = 2)
    (tr : ∀ vs H Q E, sp vs H Q E → t_law_pick K sp_law_draw { nx := fun _ H' => Q .non H', rt := Q } (L2.start ["_law_hand_here", "_law_things"] vs) H) :
    Cal P w K mg base CX0 5 "_law_pick" ["_law_hand_here", "_law_things"] sp := by
  obtain ⟨fd, F⟩ := T.F_law_pick
  have b : Binds K fd ["_law_hand_here", "_law_things"] [] := F.bindsN fun _ _ _ _ _ _ us hl => match us, hl with | [_, _], _ => rfl
  refine ⟨⟨fd, ?_, b⟩, F.kp, T.g_law_pick⟩
  refine FunD.ok F sc_law_pick hl fun cdv A outer s H vs Q E hr h => ⟨_, PSs.nox ?_, tr vs H Q E h⟩
  have hr_law_draw : Room 4 _ := hr.mono (by decide)
  have hu64 := hr.units
  unfold t_law_pick
  exact (pss_one (ps_ret (pe_ix ix_LT (pv 1) (pe_cal C_law_draw hr_law_draw (by rfl) pass0 (pa_cons (pv 0) (pa_cons (pe_callB call_len (by rfl) T.f_len PySem.boot_len (pa_cons (pv 1) pa_nil)) pa_nil))) (fun _ _ => rfl))))
theorem sc_law_backs : FnScope ["_law_hand_here", "_law_many", "_law_backs_here", "_law_left", "_law_k", "_law_one", "_law_other"] ["_law_hand_here", "_law_many"] (defScope s_law_backs) := ⟨rfl, rfl, rfl, by decide +kernel, rfl, by decide +kernel, by decide +kernel⟩
def t_law_backs (K : PySem.W.Frag) (sp_law_draw : Sp) : TS :=
    (tSeq (tAsg (tLstRg (tRg1 (tVar 1))) (gName 2))
    (tSeq (tAsg (tLstRg (tRg1 (tVar 1))) (gName 3))
    (tSeq (tFor (iRng1 (tCons (tOp rFdiv (tVar 1) (tC (.int 2))) tNil)) (gName 4)
    (tIfS (tTest (tOp (rEqD K) (tCall sp_law_draw [] E0 (tCons (tVar 0) (tCons (tC (.int 3)) tNil))) (tC (.int 0))))
    (tSeq (tAsg (tBM K "list" rPopAt (tVar 3) (tCons (tCall sp_law_draw [] E0 (tCons (tVar 0) (tCons (tCB (rLen K) (tCons (tVar 3) tNil)) tNil))) tNil)) (gName 5))
    (tSeq (tAsg (tBM K "list" rPopAt (tVar 3) (tCons (tCall sp_law_draw [] E0 (tCons (tVar 0) (tCons (tCB (rLen K) (tCons (tVar 3) tNil)) tNil))) tNil)) (gName 6))
    (tSeq (tAsg (tVar 6) (gSub (tVar 2) (tVar 5) rSetL))
    (tAsg (tVar 5) (gSub (tVar 2) (tVar 6) rSetL)))))
    tNext))
    (tRet (tVar 2)))))
theorem ok_law_backs {P : Program} {w : World} {K : PySem.W.Frag} {mg : Str → Option Value} {base : Heap} (T : Tx K mg) {sp_law_draw : Sp} (C_law_draw : Cal P w K mg base CX0 4 "_law_draw" ["_law_hand_here", "_law_many"] sp_law_draw) {sp : Sp} (hl : ∀ vs H Q E, sp vs H Q E → vs.length = 2)
    (tr : ∀ vs H Q E, sp vs H Q E → t_law_backs K sp_law_draw { nx := fun _ H' => Q .non H', rt := Q } (L2.start ["_law_hand_here", "_law_many", "_law_backs_here", "_law_left", "_law_k", "_law_one", "_law_other"] vs) H) :
    Cal P w K mg base CX0 5 "_law_backs" ["_law_hand_here", "_law_many"] sp := by
  obtain ⟨fd, F⟩ := T.F_law_backs
  have b : Binds K fd ["_law_hand_here", "_law_many"] [] := F.bindsN fun _ _ _ _ _ _ us hl => match us, hl with | [_, _], _ => rfl
  refine ⟨⟨fd, ?_, b⟩, F.kp, T.g_law_backs⟩
  refine FunD.ok F sc_law_backs hl fun cdv A outer s H vs Q E hr h => ⟨_, PSs.nox ?_, tr vs H Q E h⟩
  have hr_law_draw : Room 4 _ := hr.mono (by decide)
  have hu64 := hr.units
  unfold t_law_backs
  exact (pss_cons (ps_set (i := 2) sc_law_backs.nd rfl (by first | exact Or.inl rfl | exact Or.inr rfl) (pe_listRg rfl (by rfl) T.f_list (prg_1 (by rfl) T.f_range (pv 1))))
    (pss_cons (ps_set (i := 3) sc_law_backs.nd rfl (by first | exact Or.inl rfl | exact Or.inr rfl) (pe_listRg rfl (by rfl) T.f_list (prg_1 (by rfl) T.f_range (pv 1))))
    (pss_cons (ps_for PassesOwn.never rfl (pi_range1 (by rfl) T.f_range (pa_cons (pe_op op_fdivN (pv 1) pe_int) pa_nil)) (pg_name (i := 4) sc_law_backs.nd rfl (by first | exact Or.inl rfl | exact Or.inr rfl)) (pss_one (ps_if (pt_cmpR (op_eqD hu64) (pe_cal C_law_draw hr_law_draw (by rfl) pass0 (pa_cons (pv 0) (pa_cons pe_int pa_nil))) pe_int (nomark _)) (pss_cons (ps_set (i := 5) sc_law_backs.nd rfl (by first | exact Or.inl rfl | exact Or.inr rfl) (pe_bm PySem.F.plainAttrs_list PySem.F.slot_list_pop PySem.F.type_list_pop mt_popAt (pv 3) (pa_cons (pe_cal C_law_draw hr_law_draw (by rfl) pass0 (pa_cons (pv 0) (pa_cons (pe_callB call_len (by rfl) T.f_len PySem.boot_len (pa_cons (pv 3) pa_nil)) pa_nil))) pa_nil)))
    (pss_cons (ps_set (i := 6) sc_law_backs.nd rfl (by first | exact Or.inl rfl | exact Or.inr rfl) (pe_bm PySem.F.plainAttrs_list PySem.F.slot_list_pop PySem.F.type_list_pop mt_popAt (pv 3) (pa_cons (pe_cal C_law_draw hr_law_draw (by rfl) pass0 (pa_cons (pv 0) (pa_cons (pe_callB call_len (by rfl) T.f_len PySem.boot_len (pa_cons (pv 3) pa_nil)) pa_nil))) pa_nil)))
    (pss_cons (ps_asg (pv 6) (pg_sub (pv 2) (pv 5) set_list))
    (pss_one (ps_asg (pv 5) (pg_sub (pv 2) (pv 6) set_list)))))) pss_nil)))
    (pss_one (ps_ret (pv 2))))))
theorem sc_law_readings : FnScope ["_law_backs_here", "_law_p", "_law_q", "_law_r"] ["_law_backs_here", "_law_p", "_law_q", "_law_r"] (defScope s_law_readings) := ⟨rfl, rfl, rfl, by decide +kernel, rfl, by decide +kernel, by decide +kernel⟩
def t_law_readings (K : PySem.W.Frag) : TS :=
    (tRet (tLst (tCons (tTup (tCons (tVar 1) (tCons (tVar 2) (tCons (tVar 3) tNil)))) (tCons (tTup (tCons (tVar 3) (tCons (tOp (rIxLT K) (tVar 0) (tVar 2)) (tCons (tVar 1) tNil)))) (tCons (tTup (tCons (tOp (rIxLT K) (tVar 0) (tVar 1)) (tCons (tVar 3) (tCons (tVar 2) tNil)))) (tCons (tTup (tCons (tVar 2) (tCons (tOp (rIxLT K) (tVar 0) (tVar 3)) (tCons (tOp (rIxLT K) (tVar 0) (tVar 1)) tNil)))) (tCons (tTup (tCons (tOp (rIxLT K) (tVar 0) (tVar 3)) (tCons (tVar 1) (tCons (tOp (rIxLT K) (tVar 0) (tVar 2)) tNil)))) (tCons (tTup (tCons (tOp (rIxLT K) (tVar 0) (tVar 2)) (tCons (tOp (rIxLT K) (tVar 0) (tVar 1)) (tCons (tOp (rIxLT K) (tVar 0) (tVar 3)) tNil)))) tNil))))))))
theorem ok_law_readings {P : Program} {w : World} {K : PySem.W.Frag} {mg : Str → Option Value} {base : Heap} (T : Tx K mg) {sp : Sp} (hl : ∀ vs H Q E, sp vs H Q E → vs.length = 4)
    (tr : ∀ vs H Q E, sp vs H Q E → t_law_readings K { nx := fun _ H' => Q .non H', rt := Q } (L2.start ["_law_backs_here", "_law_p", "_law_q", "_law_r"] vs) H) :
    Cal P w K mg base CX0 3 "_law_readings" ["_law_backs_here", "_law_p", "_law_q", "_law_r"] sp := by
  obtain ⟨fd, F⟩ := T.F_law_readings
  have b : Binds K fd ["_law_backs_here", "_law_p", "_law_q", "_law_r"] [] := F.bindsN fun _ _ _ _ _ _ us hl => match us, hl with | [_, _, _, _], _ => rfl
  refine ⟨⟨fd, ?_, b⟩, F.kp, T.g_law_readings⟩
  refine FunD.ok F sc_law_readings hl fun cdv A outer s H vs Q E hr h => ⟨_, PSs.nox ?_, tr vs H Q E h⟩
  have hu64 := hr.units
  unfold t_law_readings
  exact (pss_one (ps_ret (pe_lst (pa_cons (pe_tup (pa_cons (pv 1) (pa_cons (pv 2) (pa_cons (pv 3) pa_nil)))) (pa_cons (pe_tup (pa_cons (pv 3) (pa_cons (pe_ix ix_LT (pv 0) (pv 2) (fun _ _ => rfl)) (pa_cons (pv 1) pa_nil)))) (pa_cons (pe_tup (pa_cons (pe_ix ix_LT (pv 0) (pv 1) (fun _ _ => rfl)) (pa_cons (pv 3) (pa_cons (pv 2) pa_nil)))) (pa_cons (pe_tup (pa_cons (pv 2) (pa_cons (pe_ix ix_LT (pv 0) (pv 3) (fun _ _ => rfl)) (pa_cons (pe_ix ix_LT (pv 0) (pv 1) (fun _ _ => rfl)) pa_nil)))) (pa_cons (pe_tup (pa_cons (pe_ix ix_LT (pv 0) (pv 3) (fun _ _ => rfl)) (pa_cons (pv 1) (pa_cons (pe_ix ix_LT (pv 0) (pv 2) (fun _ _ => rfl)) pa_nil)))) (pa_cons (pe_tup (pa_cons (pe_ix ix_LT (pv 0) (pv 2) (fun _ _ => rfl)) (pa_cons (pe_ix ix_LT (pv 0) (pv 1) (fun _ _ => rfl)) (pa_cons (pe_ix ix_LT (pv 0) (pv 3) (fun _ _ => rfl)) pa_nil)))) pa_nil)))))))))
theorem sc_law_classes : FnScope ["_law_backs_here", "_law_many", "_law_found", "_law_p", "_law_q", "_law_r"] ["_law_backs_here"] (defScope s_law_classes) := ⟨rfl, rfl, rfl, by decide +kernel, rfl, by decide +kernel, by decide +kernel⟩
def t_law_classes (K : PySem.W.Frag) (sp_law_readings : Sp) : TS :=
    (tSeq (tAsg (tCB (rLen K) (tCons (tVar 0) tNil)) (gName 1))
    (tSeq (tAsg (tLst tNil) (gName 2))
    (tSeq (tFor (iRng1 (tCons (tVar 1) tNil)) (gName 3)
    (tFor (iRng1 (tCons (tVar 1) tNil)) (gName 4)
    (tFor (iRng1 (tCons (tVar 1) tNil)) (gName 5)
    (tIfS (tTest (tOp (rEqD K) (tCB (rMinD K) (tCons (tCall sp_law_readings [] E0 (tCons (tVar 0) (tCons (tVar 3) (tCons (tVar 4) (tCons (tVar 5) tNil))))) tNil)) (tTup (tCons (tVar 3) (tCons (tVar 4) (tCons (tVar 5) tNil))))))
    (tDrop (tBM K "list" rAppend (tVar 2) (tCons (tTup (tCons (tVar 3) (tCons (tVar 4) (tCons (tVar 5) tNil)))) tNil)))
    tNext))))
    (tRet (tVar 2)))))
theorem ok_law_classes {P : Program} {w : World} {K : PySem.W.Frag} {mg : Str → Option Value} {base : Heap} (T : Tx K mg) {sp_law_readings : Sp} (C_law_readings : Cal P w K mg base CX0 3 "_law_readings" ["_law_backs_here", "_law_p", "_law_q", "_law_r"] sp_law_readings) {sp : Sp} (hl : ∀ vs H Q E, sp vs H Q E → vs.length = 1)
    (tr : ∀ vs H Q E, sp vs H Q E → t_law_classes K sp_law_readings { nx := fun _ H' => Q .non H', rt := Q } (L2.start ["_law_backs_here", "_law_many", "_law_found", "_law_p", "_law_q", "_law_r"] vs) H) :
    Cal P w K mg base CX0 4 "_law_classes" ["_law_backs_here"] sp := by
  obtain ⟨fd, F⟩ := T.F_law_classes
  have b : Binds K fd ["_law_backs_here"] [] := F.bindsN fun _ _ _ _ _ _ us hl => match us, hl with | [_], _ => rfl
  refine ⟨⟨fd, ?_, b⟩, F.kp, T.g_law_classes⟩
  refine FunD.ok F sc_law_classes hl fun cdv A outer s H vs Q E hr h => ⟨_, PSs.nox ?_, tr vs H Q E h⟩
  have hr_law_readings : Room 3 _ := hr.mono (by decide)
  have hu64 := hr.units
  have hu65 := hu65_of hr
  unfold t_law_classes
  exact (pss_cons (ps_set (i := 1) sc_law_classes.nd rfl (by first | exact Or.inl rfl | exact Or.inr rfl) (pe_callB call_len (by rfl) T.f_len PySem.boot_len (pa_cons (pv 0) pa_nil)))
    (pss_cons (ps_set (i := 2) sc_law_classes.nd rfl (by first | exact Or.inl rfl | exact Or.inr rfl) (pe_lst pa_nil))
    (pss_cons (ps_for PassesOwn.never rfl (pi_range1 (by rfl) T.f_range (pa_cons (pv 1) pa_nil)) (pg_name (i := 3) sc_law_classes.nd rfl (by first | exact Or.inl rfl | exact Or.inr rfl)) (pss_one (ps_for PassesOwn.never rfl (pi_range1 (by rfl) T.f_range (pa_cons (pv 1) pa_nil)) (pg_name (i := 4) sc_law_classes.nd rfl (by first | exact Or.inl rfl | exact Or.inr rfl)) (pss_one (ps_for PassesOwn.never rfl (pi_range1 (by rfl) T.f_range (pa_cons (pv 1) pa_nil)) (pg_name (i := 5) sc_law_classes.nd rfl (by first | exact Or.inl rfl | exact Or.inr rfl)) (pss_one (ps_if (pt_cmpR (op_eqD hu64) (pe_callB (call_minD rfl hu65) (by rfl) T.f_min (by decide +kernel) (pa_cons (pe_cal C_law_readings hr_law_readings (by rfl) pass0 (pa_cons (pv 0) (pa_cons (pv 3) (pa_cons (pv 4) (pa_cons (pv 5) pa_nil))))) pa_nil)) (pe_tup (pa_cons (pv 3) (pa_cons (pv 4) (pa_cons (pv 5) pa_nil)))) (nomark _)) (pss_one (ps_expr (pe_bm PySem.F.plainAttrs_list PySem.F.slot_list_append PySem.F.type_list_append mt_append (pv 2) (pa_cons (pe_tup (pa_cons (pv 3) (pa_cons (pv 4) (pa_cons (pv 5) pa_nil)))) pa_nil)))) pss_nil)))))))
    (pss_one (ps_ret (pv 2))))))
theorem sc_law_let : FnScope ["_law_backs_here", "_law_classes_here", "_law_many", "_law_let_here", "_law_three", "_law_reading", "_law_row", "_law_p", "_law_q", "_law_r"] ["_law_backs_here", "_law_classes_here"] (defScope s_law_let) := ⟨rfl, rfl, rfl, by decide +kernel, rfl, by decide +kernel, by decide +kernel⟩
def t_law_let (K : PySem.W.Frag) (sp_law_readings : Sp) : TS :=
    (tSeq (tAsg (tCB (rLen K) (tCons (tVar 0) tNil)) (gName 2))
    (tSeq (tAsg (tLc (iRng1 (tCons (tVar 2) tNil)) (gName 7) tYes (tLc (iRng1 (tCons (tVar 2) tNil)) (gName 8) tYes (tLc (iRng1 (tCons (tVar 2) tNil)) (gName 9) tYes (tC (.bl true)) [9]) [8]) [7]) (gName 3))
    (tSeq (tFor (iSeq K (tVar 1)) (gName 4)
    (tFor (iSeq K (tCall sp_law_readings [] E0 (tCons (tVar 0) (tCons (tOp (rIxLT K) (tVar 4) (tC (.int 0))) (tCons (tOp (rIxLT K) (tVar 4) (tC (.int 1))) (tCons (tOp (rIxLT K) (tVar 4) (tC (.int 2))) tNil)))))) (gName 5)
    (tSeq (tAsg (tOp (rIxLT K) (tOp (rIxLT K) (tVar 3) (tOp (rIxLT K) (tVar 5) (tC (.int 0)))) (tOp (rIxLT K) (tVar 5) (tC (.int 1)))) (gName 6))
    (tAsg (tC (.bl false)) (gSub (tVar 6) (tOp (rIxLT K) (tVar 5) (tC (.int 2))) rSetL)))))
    (tRet (tVar 3)))))
theorem ok_law_let {P : Program} {w : World} {K : PySem.W.Frag} {mg : Str → Option Value} {base : Heap} (T : Tx K mg) {sp_law_readings : Sp} (C_law_readings : Cal P w K mg base CX0 3 "_law_readings" ["_law_backs_here", "_law_p", "_law_q", "_law_r"] sp_law_readings) {sp : Sp} (hl : ∀ vs H Q E, sp vs H Q E → vs.length = 2)
    (tr : ∀ vs H Q E, sp vs H Q E → t_law_let K sp_law_readings { nx := fun _ H' => Q .non H', rt := Q } (L2.start ["_law_backs_here", "_law_classes_here", "_law_many", "_law_let_here", "_law_three", "_law_reading", "_law_row", "_law_p", "_law_q", "_law_r"] vs) H) :
    Cal P w K mg base CX0 4 "_law_let" ["_law_backs_here", "_law_classes_here"] sp := by
  obtain ⟨fd, F⟩ := T.F_law_let
  have b : Binds K fd ["_law_backs_here", "_law_classes_here"] [] := F.bindsN fun _ _ _ _ _ _ us hl => match us, hl with | [_, _], _ => rfl
  refine ⟨⟨fd, ?_, b⟩, F.kp, T.g_law_let⟩
  refine FunD.ok F sc_law_let hl fun cdv A outer s H vs Q E hr h => ⟨_, PSs.nox ?_, tr vs H Q E h⟩
  have hr_law_readings : Room 3 _ := hr.mono (by decide)
  have hu64 := hr.units
  unfold t_law_let
  exact (pss_cons (ps_set (i := 2) sc_law_let.nd rfl (by first | exact Or.inl rfl | exact Or.inr rfl) (pe_callB call_len (by rfl) T.f_len PySem.boot_len (pa_cons (pv 0) pa_nil)))
    (pss_cons (ps_setLc (i := 3) (own := [("_law_p", 7)]) (g := (gName 7)) (tt := tYes) rfl sc_law_let.nd rfl rfl (sw_true rfl rfl rfl (by kernel_rfl)) (pi_range1 (by rfl) T.f_range (pa_cons (pv 2) pa_nil)) (blkOk_by (by kernel_rfl)) (fun _ _ _ _ _ => (pg_name (i := 7) sc_law_let.nd rfl (by first | exact Or.inl rfl | exact Or.inr rfl))) (fun _ _ _ _ _ => pts_nil) (fun _ _ _ _ _ => (pe_lc (own := [("_law_q", 8)]) (g := (gName 8)) (tt := tYes) rfl sc_law_let.nd (pi_range1 (by rfl) T.f_range (pa_cons (pv 2) pa_nil)) (blkOk_by (by kernel_rfl)) (fun _ _ _ _ _ => (pg_name (i := 8) sc_law_let.nd rfl (by first | exact Or.inl rfl | exact Or.inr rfl))) (fun _ _ _ _ _ => pts_nil) (fun _ _ _ _ _ => (pe_lc (own := [("_law_r", 9)]) (g := (gName 9)) (tt := tYes) rfl sc_law_let.nd (pi_range1 (by rfl) T.f_range (pa_cons (pv 2) pa_nil)) (blkOk_by (by kernel_rfl)) (fun _ _ _ _ _ => (pg_name (i := 9) sc_law_let.nd rfl (by first | exact Or.inl rfl | exact Or.inr rfl))) (fun _ _ _ _ _ => pts_nil) (fun _ _ _ _ _ => pe_bl))))))
    (pss_cons (ps_for PassesOwn.never rfl (pi_seq (pv 1)) (pg_name (i := 4) sc_law_let.nd rfl (by first | exact Or.inl rfl | exact Or.inr rfl)) (pss_one (ps_for PassesOwn.never rfl (pi_seq (pe_cal C_law_readings hr_law_readings (by rfl) pass0 (pa_cons (pv 0) (pa_cons (pe_ix ix_LT (pv 4) pe_int (fun _ _ => rfl)) (pa_cons (pe_ix ix_LT (pv 4) pe_int (fun _ _ => rfl)) (pa_cons (pe_ix ix_LT (pv 4) pe_int (fun _ _ => rfl)) pa_nil)))))) (pg_name (i := 5) sc_law_let.nd rfl (by first | exact Or.inl rfl | exact Or.inr rfl)) (pss_cons (ps_set (i := 6) sc_law_let.nd rfl (by first | exact Or.inl rfl | exact Or.inr rfl) (pe_ix ix_LT (pe_ix ix_LT (pv 3) (pe_ix ix_LT (pv 5) pe_int (fun _ _ => rfl)) (fun _ _ => rfl)) (pe_ix ix_LT (pv 5) pe_int (fun _ _ => rfl)) (fun _ _ => rfl)))
    (pss_one (ps_asg pe_bl (pg_sub (pv 6) (pe_ix ix_LT (pv 5) pe_int (fun _ _ => rfl)) set_list)))))))
    (pss_one (ps_ret (pv 3))))))
theorem sc_law_barred : FnScope ["_law_world", "_law_many", "_law_found", "_law_p", "_law_q", "_law_r"] ["_law_world"] (defScope s_law_barred) := ⟨rfl, rfl, rfl, by decide +kernel, rfl, by decide +kernel, by decide +kernel⟩
def t_law_barred (K : PySem.W.Frag) : TS :=
    (tSeq (tAsg (tCB (rLen K) (tCons (tOp (rIxLT K) (tVar 0) (tC (.int 0))) tNil)) (gName 1))
    (tSeq (tAsg (tLst tNil) (gName 2))
    (tSeq (tFor (iRng1 (tCons (tVar 1) tNil)) (gName 3)
    (tFor (iRng1 (tCons (tVar 1) tNil)) (gName 4)
    (tAsg (tOp rCat (tVar 2) (tLc (iRng1 (tCons (tVar 1) tNil)) (gName 5) (tNot (tB (tOp (rIxLT K) (tOp (rIxLT K) (tOp (rIxLT K) (tOp (rIxLT K) (tVar 0) (tC (.int 1))) (tVar 3)) (tVar 4)) (tVar 5)))) (tTup (tCons (tVar 3) (tCons (tVar 4) (tCons (tVar 5) tNil)))) [5])) (gName 2))))
    (tRet (tVar 2)))))
theorem ok_law_barred {P : Program} {w : World} {K : PySem.W.Frag} {mg : Str → Option Value} {base : Heap} (T : Tx K mg) {sp : Sp} (hl : ∀ vs H Q E, sp vs H Q E → vs.length = 1)
    (tr : ∀ vs H Q E, sp vs H Q E → t_law_barred K { nx := fun _ H' => Q .non H', rt := Q } (L2.start ["_law_world", "_law_many", "_law_found", "_law_p", "_law_q", "_law_r"] vs) H) :
    Cal P w K mg base CX0 3 "_law_barred" ["_law_world"] sp := by
  obtain ⟨fd, F⟩ := T.F_law_barred
  have b : Binds K fd ["_law_world"] [] := F.bindsN fun _ _ _ _ _ _ us hl => match us, hl with | [_], _ => rfl
  refine ⟨⟨fd, ?_, b⟩, F.kp, T.g_law_barred⟩
  refine FunD.ok F sc_law_barred hl fun cdv A outer s H vs Q E hr h => ⟨_, PSs.nox ?_, tr vs H Q E h⟩
  have hu64 := hr.units
  unfold t_law_barred
  exact (pss_cons (ps_set (i := 1) sc_law_barred.nd rfl (by first | exact Or.inl rfl | exact Or.inr rfl) (pe_callB call_len (by rfl) T.f_len PySem.boot_len (pa_cons (pe_ix ix_LT (pv 0) pe_int (fun _ _ => rfl)) pa_nil)))
    (pss_cons (ps_set (i := 2) sc_law_barred.nd rfl (by first | exact Or.inl rfl | exact Or.inr rfl) (pe_lst pa_nil))
    (pss_cons (ps_for PassesOwn.never rfl (pi_range1 (by rfl) T.f_range (pa_cons (pv 1) pa_nil)) (pg_name (i := 3) sc_law_barred.nd rfl (by first | exact Or.inl rfl | exact Or.inr rfl)) (pss_one (ps_for PassesOwn.never rfl (pi_range1 (by rfl) T.f_range (pa_cons (pv 1) pa_nil)) (pg_name (i := 4) sc_law_barred.nd rfl (by first | exact Or.inl rfl | exact Or.inr rfl)) (pss_one (ps_set (i := 2) sc_law_barred.nd rfl (by first | exact Or.inl rfl | exact Or.inr rfl) (pe_op op_cat (pv 2) (pe_lc (own := [("_law_r", 5)]) (g := (gName 5)) (tt := (tNot (tB (tOp (rIxLT K) (tOp (rIxLT K) (tOp (rIxLT K) (tOp (rIxLT K) (tVar 0) (tC (.int 1))) (tVar 3)) (tVar 4)) (tVar 5))))) rfl sc_law_barred.nd (pi_range1 (by rfl) T.f_range (pa_cons (pv 1) pa_nil)) (blkOk_by (by kernel_rfl)) (fun _ _ _ _ _ => (pg_name (i := 5) sc_law_barred.nd rfl (by first | exact Or.inl rfl | exact Or.inr rfl))) (fun _ _ _ _ _ => (pts_one (pt_not (pt_val (pe_ix ix_LT (pe_ix ix_LT (pe_ix ix_LT (pe_ix ix_LT (pv 0) pe_int (fun _ _ => rfl)) (pv 3) (fun _ _ => rfl)) (pv 4) (fun _ _ => rfl)) (pv 5) (fun _ _ => rfl)))))) (fun _ _ _ _ _ => (pe_tup (pa_cons (pv 3) (pa_cons (pv 4) (pa_cons (pv 5) pa_nil))))))))))))
    (pss_one (ps_ret (pv 2))))))
theorem sc_law_any_world : FnScope ["_law_hand_here", "_law_many", "_law_backs_here", "_law_share", "_law_three"] ["_law_hand_here", "_law_many"] (defScope s_law_any_world) := ⟨rfl, rfl, rfl, by decide +kernel, rfl, by decide +kernel, by decide +kernel⟩
def t_law_any_world (K : PySem.W.Frag) (sp_law_backs sp_law_draw sp_law_let sp_law_classes : Sp) : TS :=
    (tSeq (tAsg (tCall sp_law_backs [] E0 (tCons (tVar 0) (tCons (tVar 1) tNil))) (gName 2))
    (tSeq (tAsg (tOp rAdd (tC (.int 2)) (tCall sp_law_draw [] E0 (tCons (tVar 0) (tCons (tC (.int 3)) tNil)))) (gName 3))
    (tRet (tTup (tCons (tVar 2) (tCons (tCall sp_law_let [] E0 (tCons (tVar 2) (tCons (tLc (iSeq K (tCall sp_law_classes [] E0 (tCons (tVar 2) tNil))) (gName 4) (tTest (tOp (rEqD K) (tCall sp_law_draw [] E0 (tCons (tVar 0) (tCons (tVar 3) tNil))) (tC (.int 0)))) (tVar 4) [4]) tNil))) tNil))))))
theorem ok_law_any_world {P : Program} {w : World} {K : PySem.W.Frag} {mg : Str → Option Value} {base : Heap} (T : Tx K mg) {sp_law_backs sp_law_draw sp_law_let sp_law_classes : Sp} (C_law_backs : Cal P w K mg base CX0 5 "_law_backs" ["_law_hand_here", "_law_many"] sp_law_backs) (C_law_draw : Cal P w K mg base CX0 4 "_law_draw" ["_law_hand_here", "_law_many"] sp_law_draw) (C_law_let : Cal P w K mg base CX0 4 "_law_let" ["_law_backs_here", "_law_classes_here"] sp_law_let) (C_law_classes : Cal P w K mg base CX0 4 "_law_classes" ["_law_backs_here"] sp_law_classes) {sp : Sp} (hl : ∀ vs H Q E, sp vs H Q E → vs.length = 2)
    (tr : ∀ vs H Q E, sp vs H Q E → t_law_any_world K sp_law_backs sp_law_draw sp_law_let sp_law_classes { nx := fun _ H' => Q .non H', rt := Q } (L2.start ["_law_hand_here", "_law_many", "_law_backs_here", "_law_share", "_law_three"] vs) H) :
    Cal P w K mg base CX0 6 "_law_any_world" ["_law_hand_here", "_law_many"] sp := by
  obtain ⟨fd, F⟩ := T.F_law_any_world
  have b : Binds K fd ["_law_hand_here", "_law_many"] [] := F.bindsN fun _ _ _ _ _ _ us hl => match us, hl with | [_, _], _ => rfl
  refine ⟨⟨fd, ?_, b⟩, F.kp, T.g_law_any_world⟩
  refine FunD.ok F sc_law_any_world hl fun cdv A outer s H vs Q E hr h => ⟨_, PSs.nox ?_, tr vs H Q E h⟩
  have hr_law_backs : Room 5 _ := hr.mono (by decide)
  have hr_law_draw : Room 4 _ := hr.mono (by decide)
  have hr_law_let : Room 4 _ := hr.mono (by decide)
  have hr_law_classes : Room 4 _ := hr.mono (by decide)
  have hu64 := hr.units
  unfold t_law_any_world
  exact (pss_cons (ps_set (i := 2) sc_law_any_world.nd rfl (by first | exact Or.inl rfl | exact Or.inr rfl) (pe_cal C_law_backs hr_law_backs (by rfl) pass0 (pa_cons (pv 0) (pa_cons (pv 1) pa_nil))))
    (pss_cons (ps_set (i := 3) sc_law_any_world.nd rfl (by first | exact Or.inl rfl | exact Or.inr rfl) (pe_op op_add pe_int (pe_cal C_law_draw hr_law_draw (by rfl) pass0 (pa_cons (pv 0) (pa_cons pe_int pa_nil)))))
    (pss_one (ps_ret (pe_tup (pa_cons (pv 2) (pa_cons (pe_cal C_law_let hr_law_let (by rfl) pass0 (pa_cons (pv 2) (pa_cons (pe_lc (own := [("_law_three", 4)]) (g := (gName 4)) (tt := (tTest (tOp (rEqD K) (tCall sp_law_draw [] E0 (tCons (tVar 0) (tCons (tVar 3) tNil))) (tC (.int 0))))) rfl sc_law_any_world.nd (pi_seq (pe_cal C_law_classes hr_law_classes (by rfl) pass0 (pa_cons (pv 2) pa_nil))) (blkOk_by (by kernel_rfl)) (fun _ _ _ _ _ => (pg_name (i := 4) sc_law_any_world.nd rfl (by first | exact Or.inl rfl | exact Or.inr rfl))) (fun _ _ _ _ _ => (pts_one (pt_cmpR (op_eqD hu64) (pe_cal C_law_draw hr_law_draw (by rfl) pass0 (pa_cons (pv 0) (pa_cons (pv 3) pa_nil))) pe_int (nomark _)))) (fun _ _ _ _ _ => (pv 4))) pa_nil))) pa_nil)))))))
theorem sc_law_bars_handed : FnScope ["_law_hand_here", "_law_world", "_law_backs_here", "_law_let_here", "_law_found", "_law_three", "_law_place"] ["_law_hand_here", "_law_world"] (defScope s_law_bars_handed) := ⟨rfl, rfl, rfl, by decide +kernel, rfl, by decide +kernel, by decide +kernel⟩
def t_law_bars_handed (K : PySem.W.Frag) (sp_law_classes sp_law_draw sp_law_pick sp_law_readings : Sp) : TS :=
    (tSeq (tAsg (tVar 1) (gTup K 2 (gCons (gName 2) (gCons (gName 3) gNil))))
    (tSeq (tAsg (tLst tNil) (gName 4))
    (tSeq (tFor (iSeq K (tCall sp_law_classes [] E0 (tCons (tVar 2) tNil))) (gName 5)
    (tIfS (tNot (tB (tOp (rIxLT K) (tOp (rIxLT K) (tOp (rIxLT K) (tVar 3) (tOp (rIxLT K) (tVar 5) (tC (.int 0)))) (tOp (rIxLT K) (tVar 5) (tC (.int 1)))) (tOp (rIxLT K) (tVar 5) (tC (.int 2))))))
    (tSeq (tAsg (tCall sp_law_draw [] E0 (tCons (tVar 0) (tCons (tOp rAdd (tCB (rLen K) (tCons (tVar 4) tNil)) (tC (.int 1))) tNil))) (gName 6))
    (tDrop (tBM K "list" rInsert (tVar 4) (tCons (tVar 6) (tCons (tCall sp_law_pick [] E0 (tCons (tVar 0) (tCons (tCall sp_law_readings [] E0 (tCons (tVar 2) (tCons (tOp (rIxLT K) (tVar 5) (tC (.int 0))) (tCons (tOp (rIxLT K) (tVar 5) (tC (.int 1))) (tCons (tOp (rIxLT K) (tVar 5) (tC (.int 2))) tNil))))) tNil))) tNil)))))
    tNext))
    (tSeq (tIfS (tAnd (tTest (tOp (rNeD K) (tVar 4) (tLst tNil))) (tTest (tOp (rEqD K) (tCall sp_law_draw [] E0 (tCons (tVar 0) (tCons (tC (.int 4)) tNil))) (tC (.int 0)))))
    (tDrop (tBM K "list" rAppend (tVar 4) (tCons (tOp (rIxLT K) (tVar 4) (tC (.int 0))) tNil)))
    tNext)
    (tRet (tVar 4))))))
theorem ok_law_bars_handed {P : Program} {w : World} {K : PySem.W.Frag} {mg : Str → Option Value} {base : Heap} (T : Tx K mg) {sp_law_classes sp_law_draw sp_law_pick sp_law_readings : Sp} (C_law_classes : Cal P w K mg base CX0 4 "_law_classes" ["_law_backs_here"] sp_law_classes) (C_law_draw : Cal P w K mg base CX0 4 "_law_draw" ["_law_hand_here", "_law_many"] sp_law_draw) (C_law_pick : Cal P w K mg base CX0 5 "_law_pick" ["_law_hand_here", "_law_things"] sp_law_pick) (C_law_readings : Cal P w K mg base CX0 3 "_law_readings" ["_law_backs_here", "_law_p", "_law_q", "_law_r"] sp_law_readings) {sp : Sp} (hl : ∀ vs H Q E, sp vs H Q E → vs.length = 2)
    (tr : ∀ vs H Q E, sp vs H Q E → t_law_bars_handed K sp_law_classes sp_law_draw sp_law_pick sp_law_readings { nx := fun _ H' => Q .non H', rt := Q } (L2.start ["_law_hand_here", "_law_world", "_law_backs_here", "_law_let_here", "_law_found", "_law_three", "_law_place"] vs) H) :
    Cal P w K mg base CX0 6 "_law_bars_handed" ["_law_hand_here", "_law_world"] sp := by
  obtain ⟨fd, F⟩ := T.F_law_bars_handed
  have b : Binds K fd ["_law_hand_here", "_law_world"] [] := F.bindsN fun _ _ _ _ _ _ us hl => match us, hl with | [_, _], _ => rfl
  refine ⟨⟨fd, ?_, b⟩, F.kp, T.g_law_bars_handed⟩
  refine FunD.ok F sc_law_bars_handed hl fun cdv A outer s H vs Q E hr h => ⟨_, PSs.nox ?_, tr vs H Q E h⟩
  have hr_law_classes : Room 4 _ := hr.mono (by decide)
  have hr_law_draw : Room 4 _ := hr.mono (by decide)
  have hr_law_pick : Room 5 _ := hr.mono (by decide)
  have hr_law_readings : Room 3 _ := hr.mono (by decide)
  have hu64 := hr.units
  unfold t_law_bars_handed
  exact (pss_cons (ps_asg (pv 1) (pg_tup rfl (pgs_cons (pg_name (i := 2) sc_law_bars_handed.nd rfl (by first | exact Or.inl rfl | exact Or.inr rfl)) (pgs_cons (pg_name (i := 3) sc_law_bars_handed.nd rfl (by first | exact Or.inl rfl | exact Or.inr rfl)) pgs_nil))))
    (pss_cons (ps_set (i := 4) sc_law_bars_handed.nd rfl (by first | exact Or.inl rfl | exact Or.inr rfl) (pe_lst pa_nil))
    (pss_cons (ps_for PassesOwn.never rfl (pi_seq (pe_cal C_law_classes hr_law_classes (by rfl) pass0 (pa_cons (pv 2) pa_nil))) (pg_name (i := 5) sc_law_bars_handed.nd rfl (by first | exact Or.inl rfl | exact Or.inr rfl)) (pss_one (ps_if (pt_not (pt_val (pe_ix ix_LT (pe_ix ix_LT (pe_ix ix_LT (pv 3) (pe_ix ix_LT (pv 5) pe_int (fun _ _ => rfl)) (fun _ _ => rfl)) (pe_ix ix_LT (pv 5) pe_int (fun _ _ => rfl)) (fun _ _ => rfl)) (pe_ix ix_LT (pv 5) pe_int (fun _ _ => rfl)) (fun _ _ => rfl)))) (pss_cons (ps_set (i := 6) sc_law_bars_handed.nd rfl (by first | exact Or.inl rfl | exact Or.inr rfl) (pe_cal C_law_draw hr_law_draw (by rfl) pass0 (pa_cons (pv 0) (pa_cons (pe_op op_add (pe_callB call_len (by rfl) T.f_len PySem.boot_len (pa_cons (pv 4) pa_nil)) pe_int) pa_nil))))
    (pss_one (ps_expr (pe_bm PySem.F.plainAttrs_list PySem.F.slot_list_insert PySem.F.type_list_insert mt_insert (pv 4) (pa_cons (pv 6) (pa_cons (pe_cal C_law_pick hr_law_pick (by rfl) pass0 (pa_cons (pv 0) (pa_cons (pe_cal C_law_readings hr_law_readings (by rfl) pass0 (pa_cons (pv 2) (pa_cons (pe_ix ix_LT (pv 5) pe_int (fun _ _ => rfl)) (pa_cons (pe_ix ix_LT (pv 5) pe_int (fun _ _ => rfl)) (pa_cons (pe_ix ix_LT (pv 5) pe_int (fun _ _ => rfl)) pa_nil))))) pa_nil))) pa_nil)))))) pss_nil)))
    (pss_cons (ps_if (PW.pt (pw_and (pt_cmpR (op_neD hu64) (pv 4) (pe_lst pa_nil) (nomark _)) (pw_and1 (pt_cmpR (op_eqD hu64) (pe_cal C_law_draw hr_law_draw (by rfl) pass0 (pa_cons (pv 0) (pa_cons pe_int pa_nil))) pe_int (nomark _))))) (pss_one (ps_expr (pe_bm PySem.F.plainAttrs_list PySem.F.slot_list_append PySem.F.type_list_append mt_append (pv 4) (pa_cons (pe_ix ix_LT (pv 4) pe_int (fun _ _ => rfl)) pa_nil)))) pss_nil)
    (pss_one (ps_ret (pv 4)))))))
theorem sc_law_labels : FnScope ["_law_hand_here", "_law_many", "_law_base", "_law_step", "_law_k"] ["_law_hand_here", "_law_many"] (defScope s_law_labels) := ⟨rfl, rfl, rfl, by decide +kernel, rfl, by decide +kernel, by decide +kernel⟩
def t_law_labels (K : PySem.W.Frag) (sp_law_draw : Sp) : TS :=
    (tSeq (tAsg (tCall sp_law_draw [] E0 (tCons (tVar 0) (tCons (tC (.int 3)) tNil))) (gName 2))
    (tSeq (tAsg (tC (.int 1)) (gName 3))
    (tSeq (tIfS (tTest (tOp (rEqD K) (tCall sp_law_draw [] E0 (tCons (tVar 0) (tCons (tC (.int 2)) tNil))) (tC (.int 0))))
    (tSeq (tAsg (tCall sp_law_draw [] E0 (tCons (tVar 0) (tCons (tOp rPow (tC (.int 10)) (tC (.int 8))) tNil))) (gName 2))
    (tAsg (tOp rAdd (tC (.int 1)) (tCall sp_law_draw [] E0 (tCons (tVar 0) (tCons (tOp rFdiv (tOp rMul (tC (.int 9)) (tOp rPow (tC (.int 10)) (tC (.int 8)))) (tCB rMax2 (tCons (tC (.int 1)) (tCons (tVar 1) tNil)))) tNil)))) (gName 3)))
    tNext)
    (tRet (tLc (iRng1 (tCons (tVar 1) tNil)) (gName 4) tYes (tOp rAdd (tVar 2) (tOp rMul (tVar 4) (tVar 3))) [4])))))
theorem ok_law_labels {P : Program} {w : World} {K : PySem.W.Frag} {mg : Str → Option Value} {base : Heap} (T : Tx K mg) {sp_law_draw : Sp} (C_law_draw : Cal P w K mg base CX0 4 "_law_draw" ["_law_hand_here", "_law_many"] sp_law_draw) {sp : Sp} (hl : ∀ vs H Q E, sp vs H Q E → vs.length = 2)
    (tr : ∀ vs H Q E, sp vs H Q E → t_law_labels K sp_law_draw { nx := fun _ H' => Q .non H', rt := Q } (L2.start ["_law_hand_here", "_law_many", "_law_base", "_law_step", "_law_k"] vs) H) :
    Cal P w K mg base CX0 5 "_law_labels" ["_law_hand_here", "_law_many"] sp := by
  obtain ⟨fd, F⟩ := T.F_law_labels
  have b : Binds K fd ["_law_hand_here", "_law_many"] [] := F.bindsN fun _ _ _ _ _ _ us hl => match us, hl with | [_, _], _ => rfl
  refine ⟨⟨fd, ?_, b⟩, F.kp, T.g_law_labels⟩
  refine FunD.ok F sc_law_labels hl fun cdv A outer s H vs Q E hr h => ⟨_, PSs.nox ?_, tr vs H Q E h⟩
  have hr_law_draw : Room 4 _ := hr.mono (by decide)
  have hu64 := hr.units
  unfold t_law_labels
  exact (pss_cons (ps_set (i := 2) sc_law_labels.nd rfl (by first | exact Or.inl rfl | exact Or.inr rfl) (pe_cal C_law_draw hr_law_draw (by rfl) pass0 (pa_cons (pv 0) (pa_cons pe_int pa_nil))))
    (pss_cons (ps_set (i := 3) sc_law_labels.nd rfl (by first | exact Or.inl rfl | exact Or.inr rfl) pe_int)
    (pss_cons (ps_if (pt_cmpR (op_eqD hu64) (pe_cal C_law_draw hr_law_draw (by rfl) pass0 (pa_cons (pv 0) (pa_cons pe_int pa_nil))) pe_int (nomark _)) (pss_cons (ps_set (i := 2) sc_law_labels.nd rfl (by first | exact Or.inl rfl | exact Or.inr rfl) (pe_cal C_law_draw hr_law_draw (by rfl) pass0 (pa_cons (pv 0) (pa_cons (pe_op op_pow pe_int pe_int) pa_nil))))
    (pss_one (ps_set (i := 3) sc_law_labels.nd rfl (by first | exact Or.inl rfl | exact Or.inr rfl) (pe_op op_add pe_int (pe_cal C_law_draw hr_law_draw (by rfl) pass0 (pa_cons (pv 0) (pa_cons (pe_op op_fdivN (pe_op op_mul pe_int (pe_op op_pow pe_int pe_int)) (pe_callB (call_max2 rfl) (by rfl) T.f_max (by decide +kernel) (pa_cons pe_int (pa_cons (pv 1) pa_nil)))) pa_nil))))))) pss_nil)
    (pss_one (ps_ret (pe_lc (own := [("_law_k", 4)]) (g := (gName 4)) (tt := tYes) rfl sc_law_labels.nd (pi_range1 (by rfl) T.f_range (pa_cons (pv 1) pa_nil)) (blkOk_by (by kernel_rfl)) (fun _ _ _ _ _ => (pg_name (i := 4) sc_law_labels.nd rfl (by first | exact Or.inl rfl | exact Or.inr rfl))) (fun _ _ _ _ _ => pts_nil) (fun _ _ _ _ _ => (pe_op op_add (pv 2) (pe_op op_mul (pv 4) (pv 3))))))))))
theorem sc_law_fits : FnScope ["_law_world", "_law_table", "_law_backs_here", "_law_let_here", "_law_i", "_law_j", "_law_k"] ["_law_world", "_law_table"] (defScope s_law_fits) := ⟨rfl, rfl, rfl, by decide +kernel, rfl, by decide +kernel, by decide +kernel⟩
def t_law_fits (K : PySem.W.Frag) : TS :=
    (tSeq (tAsg (tVar 0) (gTup K 2 (gCons (gName 2) (gCons (gName 3) gNil))))
    (tSeq (tFor (iRng1 (tCons (tCB (rLen K) (tCons (tVar 1) tNil)) tNil)) (gName 4)
    (tFor (iRng1 (tCons (tVar 4) tNil)) (gName 5)
    (tSeq (tIfS (tTest (tOp (rNeD K) (tOp (rIxLT K) (tOp (rIxLT K) (tVar 1) (tVar 5)) (tVar 4)) (tOp (rIxLT K) (tVar 2) (tOp (rIxLT K) (tOp (rIxLT K) (tVar 1) (tVar 4)) (tVar 5)))))
    (tRet (tC (.bl false)))
    tNext)
    (tFor (iRng1 (tCons (tVar 5) tNil)) (gName 6)
    (tIfS (tNot (tB (tOp (rIxLT K) (tOp (rIxLT K) (tOp (rIxLT K) (tVar 3) (tOp (rIxLT K) (tOp (rIxLT K) (tVar 1) (tVar 4)) (tVar 5))) (tOp (rIxLT K) (tOp (rIxLT K) (tVar 1) (tVar 5)) (tVar 6))) (tOp (rIxLT K) (tOp (rIxLT K) (tVar 1) (tVar 4)) (tVar 6)))))
    (tRet (tC (.bl false)))
    tNext)))))
    (tRet (tC (.bl true)))))
theorem ok_law_fits {P : Program} {w : World} {K : PySem.W.Frag} {mg : Str → Option Value} {base : Heap} (T : Tx K mg) {sp : Sp} (hl : ∀ vs H Q E, sp vs H Q E → vs.length = 2)
    (tr : ∀ vs H Q E, sp vs H Q E → t_law_fits K { nx := fun _ H' => Q .non H', rt := Q } (L2.start ["_law_world", "_law_table", "_law_backs_here", "_law_let_here", "_law_i", "_law_j", "_law_k"] vs) H) :
    Cal P w K mg base CX0 3 "_law_fits" ["_law_world", "_law_table"] sp := by
  obtain ⟨fd, F⟩ := T.F_law_fits
  have b : Binds K fd ["_law_world", "_law_table"] [] := F.bindsN fun _ _ _ _ _ _ us hl => match us, hl with | [_, _], _ => rfl
  refine ⟨⟨fd, ?_, b⟩, F.kp, T.g_law_fits⟩
  refine FunD.ok F sc_law_fits hl fun cdv A outer s H vs Q E hr h => ⟨_, PSs.nox ?_, tr vs H Q E h⟩
  have hu64 := hr.units
  unfold t_law_fits
  exact (pss_cons (ps_asg (pv 0) (pg_tup rfl (pgs_cons (pg_name (i := 2) sc_law_fits.nd rfl (by first | exact Or.inl rfl | exact Or.inr rfl)) (pgs_cons (pg_name (i := 3) sc_law_fits.nd rfl (by first | exact Or.inl rfl | exact Or.inr rfl)) pgs_nil))))
    (pss_cons (ps_for PassesOwn.never rfl (pi_range1 (by rfl) T.f_range (pa_cons (pe_callB call_len (by rfl) T.f_len PySem.boot_len (pa_cons (pv 1) pa_nil)) pa_nil)) (pg_name (i := 4) sc_law_fits.nd rfl (by first | exact Or.inl rfl | exact Or.inr rfl)) (pss_one (ps_for PassesOwn.never rfl (pi_range1 (by rfl) T.f_range (pa_cons (pv 4) pa_nil)) (pg_name (i := 5) sc_law_fits.nd rfl (by first | exact Or.inl rfl | exact Or.inr rfl)) (pss_cons (ps_if (pt_cmpR (op_neD hu64) (pe_ix ix_LT (pe_ix ix_LT (pv 1) (pv 5) (fun _ _ => rfl)) (pv 4) (fun _ _ => rfl)) (pe_ix ix_LT (pv 2) (pe_ix ix_LT (pe_ix ix_LT (pv 1) (pv 4) (fun _ _ => rfl)) (pv 5) (fun _ _ => rfl)) (fun _ _ => rfl)) (nomark _)) (pss_one (ps_ret pe_bl)) pss_nil)
    (pss_one (ps_for PassesOwn.never rfl (pi_range1 (by rfl) T.f_range (pa_cons (pv 5) pa_nil)) (pg_name (i := 6) sc_law_fits.nd rfl (by first | exact Or.inl rfl | exact Or.inr rfl)) (pss_one (ps_if (pt_not (pt_val (pe_ix ix_LT (pe_ix ix_LT (pe_ix ix_LT (pv 3) (pe_ix ix_LT (pe_ix ix_LT (pv 1) (pv 4) (fun _ _ => rfl)) (pv 5) (fun _ _ => rfl)) (fun _ _ => rfl)) (pe_ix ix_LT (pe_ix ix_LT (pv 1) (pv 5) (fun _ _ => rfl)) (pv 6) (fun _ _ => rfl)) (fun _ _ => rfl)) (pe_ix ix_LT (pe_ix ix_LT (pv 1) (pv 4) (fun _ _ => rfl)) (pv 6) (fun _ _ => rfl)) (fun _ _ => rfl)))) (pss_one (ps_ret pe_bl)) pss_nil))))))))
    (pss_one (ps_ret pe_bl))))
theorem sc_law_rows : FnScope ["_law_table", "_law_j"] ["_law_table"] (defScope s_law_rows) := ⟨rfl, rfl, rfl, by decide +kernel, rfl, by decide +kernel, by decide +kernel⟩
def t_law_rows (K : PySem.W.Frag) : TS :=
    (tRet (tLc (iRng1 (tCons (tCB (rLen K) (tCons (tVar 0) tNil)) tNil)) (gName 1) tYes (tCB (rListOf K) (tCons (tSl (rSlL K) (tOp (rIxLT K) (tVar 0) (tVar 1)) tNoPart (tPart (tVar 1))) tNil)) [1]))
theorem ok_law_rows {P : Program} {w : World} {K : PySem.W.Frag} {mg : Str → Option Value} {base : Heap} (T : Tx K mg) {sp : Sp} (hl : ∀ vs H Q E, sp vs H Q E → vs.length = 1)
    (tr : ∀ vs H Q E, sp vs H Q E → t_law_rows K { nx := fun _ H' => Q .non H', rt := Q } (L2.start ["_law_table", "_law_j"] vs) H) :
    Cal P w K mg base CX0 3 "_law_rows" ["_law_table"] sp := by
  obtain ⟨fd, F⟩ := T.F_law_rows
  have b : Binds K fd ["_law_table"] [] := F.bindsN fun _ _ _ _ _ _ us hl => match us, hl with | [_], _ => rfl
  refine ⟨⟨fd, ?_, b⟩, F.kp, T.g_law_rows⟩
  refine FunD.ok F sc_law_rows hl fun cdv A outer s H vs Q E hr h => ⟨_, PSs.nox ?_, tr vs H Q E h⟩
  have hu64 := hr.units
  unfold t_law_rows
  exact (pss_one (ps_ret (pe_lc (own := [("_law_j", 1)]) (g := (gName 1)) (tt := tYes) rfl sc_law_rows.nd (pi_range1 (by rfl) T.f_range (pa_cons (pe_callB call_len (by rfl) T.f_len PySem.boot_len (pa_cons (pv 0) pa_nil)) pa_nil)) (blkOk_by (by kernel_rfl)) (fun _ _ _ _ _ => (pg_name (i := 1) sc_law_rows.nd rfl (by first | exact Or.inl rfl | exact Or.inr rfl))) (fun _ _ _ _ _ => pts_nil) (fun _ _ _ _ _ => (pe_callTy call_list_of (by rfl) T.f_list (by decide +kernel) (pa_cons (pe_slice sl_list (pe_ix ix_LT (pv 0) (pv 1) (fun _ _ => rfl)) po_none (po_some (pv 1))) pa_nil))))))
theorem sc_law_company : FnScope ["_law_backs_here", "_law_labels_here", "_law_table"] ["_law_backs_here", "_law_labels_here", "_law_table"] (defScope s_law_company) := ⟨rfl, rfl, rfl, by decide +kernel, rfl, by decide +kernel, by decide +kernel⟩
def t_law_company (K : PySem.W.Frag) (sp_Company_init sp_Ties_init sp_law_rows : Sp) : TS :=
    (tRet (tMake (He.ga K "Company") sp_Company_init [] E0 (tCons (tMake (He.ga K "Ties") sp_Ties_init [] E0 (tCons (tVar 0) tNil)) (tCons (tVar 1) (tCons (tCall sp_law_rows [] E0 (tCons (tVar 2) tNil)) tNil)))))
theorem ok_law_company {P : Program} {w : World} {K : PySem.W.Frag} {mg : Str → Option Value} {base : Heap} (T : Tx K mg) {sp_Company_init sp_Ties_init sp_law_rows : Sp} (C_Company_init : CalC P w K mg base CX0 6 "Company" ["self", "ties", "guests", "rows"] sp_Company_init) (C_Ties_init : CalC P w K mg base CX0 4 "Ties" ["self", "backs"] sp_Ties_init) (C_law_rows : Cal P w K mg base CX0 3 "_law_rows" ["_law_table"] sp_law_rows) {sp : Sp} (hl : ∀ vs H Q E, sp vs H Q E → vs.length = 3)
    (tr : ∀ vs H Q E, sp vs H Q E → t_law_company K sp_Company_init sp_Ties_init sp_law_rows { nx := fun _ H' => Q .non H', rt := Q } (L2.start ["_law_backs_here", "_law_labels_here", "_law_table"] vs) H) :
    Cal P w K mg base CX0 9 "_law_company" ["_law_backs_here", "_law_labels_here", "_law_table"] sp := by
  obtain ⟨fd, F⟩ := T.F_law_company
  have b : Binds K fd ["_law_backs_here", "_law_labels_here", "_law_table"] [] := F.bindsN fun _ _ _ _ _ _ us hl => match us, hl with | [_, _, _], _ => rfl
  refine ⟨⟨fd, ?_, b⟩, F.kp, T.g_law_company⟩
  refine FunD.ok F sc_law_company hl fun cdv A outer s H vs Q E hr h => ⟨_, PSs.nox ?_, tr vs H Q E h⟩
  have hr_Company_init : Room 7 _ := hr.mono (by decide)
  have hr_Ties_init : Room 5 _ := hr.mono (by decide)
  have hr_law_rows : Room 3 _ := hr.mono (by decide)
  have hu64 := hr.units
  unfold t_law_company
  exact (pss_one (ps_ret (pe_calC C_Company_init hr_Company_init (by rfl) pass0 (pa_cons (pe_calC C_Ties_init hr_Ties_init (by rfl) pass0 (pa_cons (pv 0) pa_nil)) (pa_cons (pv 1) (pa_cons (pe_cal C_law_rows hr_law_rows (by rfl) pass0 (pa_cons (pv 2) pa_nil)) pa_nil))))))
theorem sc_law_book : FnScope ["_law_hand_here", "_law_world"] ["_law_hand_here", "_law_world"] (defScope s_law_book) := ⟨rfl, rfl, rfl, by decide +kernel, rfl, by decide +kernel, by decide +kernel⟩
def t_law_book (K : PySem.W.Frag) (sp_Book_init sp_Ties_init sp_law_bars_handed : Sp) : TS :=
    (tRet (tMake (He.ga K "Book") sp_Book_init [] E0 (tCons (tMake (He.ga K "Ties") sp_Ties_init [] E0 (tCons (tOp (rIxLT K) (tVar 1) (tC (.int 0))) tNil)) (tCons (tCall sp_law_bars_handed [] E0 (tCons (tVar 0) (tCons (tVar 1) tNil))) tNil))))
theorem ok_law_book {P : Program} {w : World} {K : PySem.W.Frag} {mg : Str → Option Value} {base : Heap} (T : Tx K mg) {sp_Book_init sp_Ties_init sp_law_bars_handed : Sp} (C_Book_init : CalC P w K mg base CX0 6 "Book" ["self", "ties", "barred"] sp_Book_init) (C_Ties_init : CalC P w K mg base CX0 4 "Ties" ["self", "backs"] sp_Ties_init) (C_law_bars_handed : Cal P w K mg base CX0 6 "_law_bars_handed" ["_law_hand_here", "_law_world"] sp_law_bars_handed) {sp : Sp} (hl : ∀ vs H Q E, sp vs H Q E → vs.length = 2)
    (tr : ∀ vs H Q E, sp vs H Q E → t_law_book K sp_Book_init sp_Ties_init sp_law_bars_handed { nx := fun _ H' => Q .non H', rt := Q } (L2.start ["_law_hand_here", "_law_world"] vs) H) :
    Cal P w K mg base CX0 9 "_law_book" ["_law_hand_here", "_law_world"] sp := by
  obtain ⟨fd, F⟩ := T.F_law_book
  have b : Binds K fd ["_law_hand_here", "_law_world"] [] := F.bindsN fun _ _ _ _ _ _ us hl => match us, hl with | [_, _], _ => rfl
  refine ⟨⟨fd, ?_, b⟩, F.kp, T.g_law_book⟩
  refine FunD.ok F sc_law_book hl fun cdv A outer s H vs Q E hr h => ⟨_, PSs.nox ?_, tr vs H Q E h⟩
  have hr_Book_init : Room 7 _ := hr.mono (by decide)
  have hr_Ties_init : Room 5 _ := hr.mono (by decide)
  have hr_law_bars_handed : Room 6 _ := hr.mono (by decide)
  have hu64 := hr.units
  unfold t_law_book
  exact (pss_one (ps_ret (pe_calC C_Book_init hr_Book_init (by rfl) pass0 (pa_cons (pe_calC C_Ties_init hr_Ties_init (by rfl) pass0 (pa_cons (pe_ix ix_LT (pv 1) pe_int (fun _ _ => rfl)) pa_nil)) (pa_cons (pe_cal C_law_bars_handed hr_law_bars_handed (by rfl) pass0 (pa_cons (pv 0) (pa_cons (pv 1) pa_nil))) pa_nil)))))
theorem sc_law_shape : FnScope ["_law_hand_here", "_law_row"] ["_law_hand_here", "_law_row"] (defScope s_law_shape) := ⟨rfl, rfl, rfl, by decide +kernel, rfl, by decide +kernel, by decide +kernel⟩
def t_law_shape (K : PySem.W.Frag) (sp_law_draw : Sp) : TS :=
    (tSeq (tIfS (tTest (tOp (rEqD K) (tCall sp_law_draw [] E0 (tCons (tVar 0) (tCons (tC (.int 2)) tNil))) (tC (.int 0))))
    (tRet (tCB (rListOf K) (tCons (tVar 1) tNil)))
    tNext)
    (tRet (tThen (tVar 1) (kTup K))))
theorem ok_law_shape {P : Program} {w : World} {K : PySem.W.Frag} {mg : Str → Option Value} {base : Heap} (T : Tx K mg) {sp_law_draw : Sp} (C_law_draw : Cal P w K mg base CX0 4 "_law_draw" ["_law_hand_here", "_law_many"] sp_law_draw) {sp : Sp} (hl : ∀ vs H Q E, sp vs H Q E → vs.length = 2)
    (tr : ∀ vs H Q E, sp vs H Q E → t_law_shape K sp_law_draw { nx := fun _ H' => Q .non H', rt := Q } (L2.start ["_law_hand_here", "_law_row"] vs) H) :
    Cal P w K mg base CX0 5 "_law_shape" ["_law_hand_here", "_law_row"] sp := by
  obtain ⟨fd, F⟩ := T.F_law_shape
  have b : Binds K fd ["_law_hand_here", "_law_row"] [] := F.bindsN fun _ _ _ _ _ _ us hl => match us, hl with | [_, _], _ => rfl
  refine ⟨⟨fd, ?_, b⟩, F.kp, T.g_law_shape⟩
  refine FunD.ok F sc_law_shape hl fun cdv A outer s H vs Q E hr h => ⟨_, PSs.nox ?_, tr vs H Q E h⟩
  have hr_law_draw : Room 4 _ := hr.mono (by decide)
  have hu64 := hr.units
  unfold t_law_shape
  exact (pss_cons (ps_if (pt_cmpR (op_eqD hu64) (pe_cal C_law_draw hr_law_draw (by rfl) pass0 (pa_cons (pv 0) (pa_cons pe_int pa_nil))) pe_int (nomark _)) (pss_one (ps_ret (pe_callTy call_list_of (by rfl) T.f_list (by decide +kernel) (pa_cons (pv 1) pa_nil)))) pss_nil)
    (pss_one (ps_ret (pe_tupleOf (by rfl) T.f_tuple (pv 1)))))
theorem sc_law_drawn_table : FnScope ["_law_hand_here", "_law_backs_here", "_law_size", "_law_table", "_law_i", "_law_j", "_law_tie", "_law_line"] ["_law_hand_here", "_law_backs_here", "_law_size"] (defScope s_law_drawn_table) := ⟨rfl, rfl, rfl, by decide +kernel, rfl, by decide +kernel, by decide +kernel⟩
def t_law_drawn_table (K : PySem.W.Frag) (sp_law_draw : Sp) : TS :=
    (tSeq (tAsg (tLc (iRng1 (tCons (tVar 2) tNil)) (gName 4) tYes (tLc (iRng1 (tCons (tVar 2) tNil)) (gName 5) tYes (tUn (rU fun i => .int (-i)) (tC (.int 1))) [5]) [4]) (gName 3))
    (tSeq (tFor (iRng1 (tCons (tVar 2) tNil)) (gName 4)
    (tFor (iRng1 (tCons (tVar 4) tNil)) (gName 5)
    (tSeq (tAsg (tCall sp_law_draw [] E0 (tCons (tVar 0) (tCons (tCB (rLen K) (tCons (tVar 1) tNil)) tNil))) (gName 6))
    (tSeq (tAsg (tOp (rIxLT K) (tVar 3) (tVar 4)) (gName 7))
    (tSeq (tAsg (tVar 6) (gSub (tVar 7) (tVar 5) rSetL))
    (tSeq (tAsg (tOp (rIxLT K) (tVar 3) (tVar 5)) (gName 7))
    (tAsg (tOp (rIxLT K) (tVar 1) (tVar 6)) (gSub (tVar 7) (tVar 4) rSetL))))))))
    (tRet (tVar 3))))
theorem ok_law_drawn_table {P : Program} {w : World} {K : PySem.W.Frag} {mg : Str → Option Value} {base : Heap} (T : Tx K mg) {sp_law_draw : Sp} (C_law_draw : Cal P w K mg base CX0 4 "_law_draw" ["_law_hand_here", "_law_many"] sp_law_draw) {sp : Sp} (hl : ∀ vs H Q E, sp vs H Q E → vs.length = 3)
    (tr : ∀ vs H Q E, sp vs H Q E → t_law_drawn_table K sp_law_draw { nx := fun _ H' => Q .non H', rt := Q } (L2.start ["_law_hand_here", "_law_backs_here", "_law_size", "_law_table", "_law_i", "_law_j", "_law_tie", "_law_line"] vs) H) :
    Cal P w K mg base CX0 5 "_law_drawn_table" ["_law_hand_here", "_law_backs_here", "_law_size"] sp := by
  obtain ⟨fd, F⟩ := T.F_law_drawn_table
  have b : Binds K fd ["_law_hand_here", "_law_backs_here", "_law_size"] [] := F.bindsN fun _ _ _ _ _ _ us hl => match us, hl with | [_, _, _], _ => rfl
  refine ⟨⟨fd, ?_, b⟩, F.kp, T.g_law_drawn_table⟩
  refine FunD.ok F sc_law_drawn_table hl fun cdv A outer s H vs Q E hr h => ⟨_, PSs.nox ?_, tr vs H Q E h⟩
  have hr_law_draw : Room 4 _ := hr.mono (by decide)
  have hu64 := hr.units
  unfold t_law_drawn_table
  exact (pss_cons (ps_setLc (i := 3) (own := [("_law_i", 4)]) (g := (gName 4)) (tt := tYes) rfl sc_law_drawn_table.nd rfl rfl (sw_true rfl rfl rfl (by kernel_rfl)) (pi_range1 (by rfl) T.f_range (pa_cons (pv 2) pa_nil)) (blkOk_by (by kernel_rfl)) (fun _ _ _ _ _ => (pg_name (i := 4) sc_law_drawn_table.nd rfl (by first | exact Or.inl rfl | exact Or.inr rfl))) (fun _ _ _ _ _ => pts_nil) (fun _ _ _ _ _ => (pe_lc (own := [("_law_j", 5)]) (g := (gName 5)) (tt := tYes) rfl sc_law_drawn_table.nd (pi_range1 (by rfl) T.f_range (pa_cons (pv 2) pa_nil)) (blkOk_by (by kernel_rfl)) (fun _ _ _ _ _ => (pg_name (i := 5) sc_law_drawn_table.nd rfl (by first | exact Or.inl rfl | exact Or.inr rfl))) (fun _ _ _ _ _ => pts_nil) (fun _ _ _ _ _ => (pe_un un_neg pe_int)))))
    (pss_cons (ps_for PassesOwn.never rfl (pi_range1 (by rfl) T.f_range (pa_cons (pv 2) pa_nil)) (pg_name (i := 4) sc_law_drawn_table.nd rfl (by first | exact Or.inl rfl | exact Or.inr rfl)) (pss_one (ps_for PassesOwn.never rfl (pi_range1 (by rfl) T.f_range (pa_cons (pv 4) pa_nil)) (pg_name (i := 5) sc_law_drawn_table.nd rfl (by first | exact Or.inl rfl | exact Or.inr rfl)) (pss_cons (ps_set (i := 6) sc_law_drawn_table.nd rfl (by first | exact Or.inl rfl | exact Or.inr rfl) (pe_cal C_law_draw hr_law_draw (by rfl) pass0 (pa_cons (pv 0) (pa_cons (pe_callB call_len (by rfl) T.f_len PySem.boot_len (pa_cons (pv 1) pa_nil)) pa_nil))))
    (pss_cons (ps_set (i := 7) sc_law_drawn_table.nd rfl (by first | exact Or.inl rfl | exact Or.inr rfl) (pe_ix ix_LT (pv 3) (pv 4) (fun _ _ => rfl)))
    (pss_cons (ps_asg (pv 6) (pg_sub (pv 7) (pv 5) set_list))
    (pss_cons (ps_set (i := 7) sc_law_drawn_table.nd rfl (by first | exact Or.inl rfl | exact Or.inr rfl) (pe_ix ix_LT (pv 3) (pv 5) (fun _ _ => rfl)))
    (pss_one (ps_asg (pe_ix ix_LT (pv 1) (pv 6) (fun _ _ => rfl)) (pg_sub (pv 7) (pv 4) set_list))))))))))
    (pss_one (ps_ret (pv 3)))))
theorem sc_law_same_barred : FnScope ["_law_book_here", "_law_world", "_law_due_here"] ["_law_book_here", "_law_world"] (defScope s_law_same_barred) := ⟨rfl, rfl, rfl, by decide +kernel, rfl, by decide +kernel, by decide +kernel⟩
def t_law_same_barred (K : PySem.W.Frag) (sp_law_barred sp_law_plain : Sp) : TS :=
    (tSeq (tAsg (tThen (tCall sp_law_barred [] E0 (tCons (tVar 1) tNil)) (kTup K)) (gName 2))
    (tRet (tAndV (tCB (rIsi K) (tCons (tVar 0) (tCons (tC (.ref (He.ga K "Book"))) tNil))) (tAndV (tCall sp_law_plain [] E0 (tCons (tFld K (tVar 0) "barred") (tCons (tVar 2) tNil))) (tCall sp_law_plain [] E0 (tCons (tFld K (tFld K (tVar 0) "ties") "backs") (tCons (tThen (tOp (rIxLT K) (tVar 1) (tC (.int 0))) (kTup K)) tNil)))))))
theorem ok_law_same_barred {P : Program} {w : World} {K : PySem.W.Frag} {mg : Str → Option Value} {base : Heap} (T : Tx K mg) {sp_law_barred sp_law_plain : Sp} (C_law_barred : Cal P w K mg base CX0 3 "_law_barred" ["_law_world"] sp_law_barred) (C_law_plain : Cal P w K mg base CX0 9 "_law_plain" ["_law_answer", "_law_due_here"] sp_law_plain) {sp : Sp} (hl : ∀ vs H Q E, sp vs H Q E → vs.length = 2)
    (tr : ∀ vs H Q E, sp vs H Q E → t_law_same_barred K sp_law_barred sp_law_plain { nx := fun _ H' => Q .non H', rt := Q } (L2.start ["_law_book_here", "_law_world", "_law_due_here"] vs) H) :
    Cal P w K mg base CX0 10 "_law_same_barred" ["_law_book_here", "_law_world"] sp := by
  obtain ⟨fd, F⟩ := T.F_law_same_barred
  have b : Binds K fd ["_law_book_here", "_law_world"] [] := F.bindsN fun _ _ _ _ _ _ us hl => match us, hl with | [_, _], _ => rfl
  refine ⟨⟨fd, ?_, b⟩, F.kp, T.g_law_same_barred⟩
  refine FunD.ok F sc_law_same_barred hl fun cdv A outer s H vs Q E hr h => ⟨_, PSs.nox ?_, tr vs H Q E h⟩
  have hr_law_barred : Room 3 _ := hr.mono (by decide)
  have hr_law_plain : Room 9 _ := hr.mono (by decide)
  have hu64 := hr.units
  unfold t_law_same_barred
  exact (pss_cons (ps_set (i := 2) sc_law_same_barred.nd rfl (by first | exact Or.inl rfl | exact Or.inr rfl) (pe_tupleOf (by rfl) T.f_tuple (pe_cal C_law_barred hr_law_barred (by rfl) pass0 (pa_cons (pv 1) pa_nil))))
    (pss_one (ps_ret (pe_and (pe_callB call_isi (by rfl) T.f_isinstance PyProof.Rows.boot_isinstance (pa_cons (pv 0) (pa_cons (pe_glob (by rfl) T.g_Book (by rfl)) pa_nil))) (pe_and (pe_cal C_law_plain hr_law_plain (by rfl) pass0 (pa_cons (pe_fld (pv 0) rfl) (pa_cons (pv 2) pa_nil))) (pe_one (pe_cal C_law_plain hr_law_plain (by rfl) pass0 (pa_cons (pe_fld (pe_fld (pv 0) rfl) rfl) (pa_cons (pe_tupleOf (by rfl) T.f_tuple (pe_ix ix_LT (pv 1) pe_int (fun _ _ => rfl))) pa_nil)))))))))
theorem sc_law_orders : FnScope ["_law_size", "_law_rows_here", "_law_k", "_law_longer", "_law_row", "_law_place"] ["_law_size"] (defScope s_law_orders) := ⟨rfl, rfl, rfl, by decide +kernel, rfl, by decide +kernel, by decide +kernel⟩
def t_law_orders (K : PySem.W.Frag) : TS :=
    (tSeq (tAsg (tLst (tCons (tLst tNil) tNil)) (gName 1))
    (tSeq (tFor (iRng1 (tCons (tVar 0) tNil)) (gName 2)
    (tSeq (tAsg (tLst tNil) (gName 3))
    (tSeq (tFor (iSeq K (tVar 1)) (gName 4)
    (tAsg (tOp rCat (tVar 3) (tLc (iRng1 (tCons (tVar 0) tNil)) (gName 5) (tTest (tOp (rNotInD K) (tVar 5) (tVar 4))) (tOp rCat (tVar 4) (tLst (tCons (tVar 5) tNil))) [5])) (gName 3)))
    (tAsg (tVar 3) (gName 1)))))
    (tRet (tVar 1))))
theorem ok_law_orders {P : Program} {w : World} {K : PySem.W.Frag} {mg : Str → Option Value} {base : Heap} (T : Tx K mg) {sp : Sp} (hl : ∀ vs H Q E, sp vs H Q E → vs.length = 1)
    (tr : ∀ vs H Q E, sp vs H Q E → t_law_orders K { nx := fun _ H' => Q .non H', rt := Q } (L2.start ["_law_size", "_law_rows_here", "_law_k", "_law_longer", "_law_row", "_law_place"] vs) H) :
    Cal P w K mg base CX0 3 "_law_orders" ["_law_size"] sp := by
  obtain ⟨fd, F⟩ := T.F_law_orders
  have b : Binds K fd ["_law_size"] [] := F.bindsN fun _ _ _ _ _ _ us hl => match us, hl with | [_], _ => rfl
  refine ⟨⟨fd, ?_, b⟩, F.kp, T.g_law_orders⟩
  refine FunD.ok F sc_law_orders hl fun cdv A outer s H vs Q E hr h => ⟨_, PSs.nox ?_, tr vs H Q E h⟩
  have hu64 := hr.units
  have hu65 := hu65_of hr
  unfold t_law_orders
  exact (pss_cons (ps_set (i := 1) sc_law_orders.nd rfl (by first | exact Or.inl rfl | exact Or.inr rfl) (pe_lst (pa_cons (pe_lst pa_nil) pa_nil)))
    (pss_cons (ps_for PassesOwn.never rfl (pi_range1 (by rfl) T.f_range (pa_cons (pv 0) pa_nil)) (pg_name (i := 2) sc_law_orders.nd rfl (by first | exact Or.inl rfl | exact Or.inr rfl)) (pss_cons (ps_set (i := 3) sc_law_orders.nd rfl (by first | exact Or.inl rfl | exact Or.inr rfl) (pe_lst pa_nil))
    (pss_cons (ps_for PassesOwn.never rfl (pi_seq (pv 1)) (pg_name (i := 4) sc_law_orders.nd rfl (by first | exact Or.inl rfl | exact Or.inr rfl)) (pss_one (ps_set (i := 3) sc_law_orders.nd rfl (by first | exact Or.inl rfl | exact Or.inr rfl) (pe_op op_cat (pv 3) (pe_lc (own := [("_law_place", 5)]) (g := (gName 5)) (tt := (tTest (tOp (rNotInD K) (tVar 5) (tVar 4)))) rfl sc_law_orders.nd (pi_range1 (by rfl) T.f_range (pa_cons (pv 0) pa_nil)) (blkOk_by (by kernel_rfl)) (fun _ _ _ _ _ => (pg_name (i := 5) sc_law_orders.nd rfl (by first | exact Or.inl rfl | exact Or.inr rfl))) (fun _ _ _ _ _ => (pts_one (pt_cmpR (op_notInD hu65) (pv 5) (pv 4) (by rfl)))) (fun _ _ _ _ _ => (pe_op op_cat (pv 4) (pe_lst (pa_cons (pv 5) pa_nil)))))))))
    (pss_one (ps_set (i := 1) sc_law_orders.nd rfl (by first | exact Or.inl rfl | exact Or.inr rfl) (pv 3))))))
    (pss_one (ps_ret (pv 1)))))
theorem sc_law_namings : FnScope ["_law_backs_here", "_law_found", "_law_names", "_law_kept", "_law_t"] ["_law_backs_here"] (defScope s_law_namings) := ⟨rfl, rfl, rfl, by decide +kernel, rfl, by decide +kernel, by decide +kernel⟩
def t_law_namings (K : PySem.W.Frag) (sp_law_orders : Sp) : TS :=
    (tSeq (tAsg (tLst tNil) (gName 1))
    (tSeq (tFor (iSeq K (tCall sp_law_orders [] E0 (tCons (tCB (rLen K) (tCons (tVar 0) tNil)) tNil))) (gName 2)
    (tSeq (tAsg (tLc (iRng1 (tCons (tCB (rLen K) (tCons (tVar 0) tNil)) tNil)) (gName 4) (tTest (tOp (rEqD K) (tOp (rIxLT K) (tVar 0) (tOp (rIxLT K) (tVar 2) (tVar 4))) (tOp (rIxLT K) (tVar 2) (tOp (rIxLT K) (tVar 0) (tVar 4))))) (tVar 4) [4]) (gName 3))
    (tIfS (tTest (tOp (rEqD K) (tCB (rLen K) (tCons (tVar 3) tNil)) (tCB (rLen K) (tCons (tVar 0) tNil))))
    (tDrop (tBM K "list" rAppend (tVar 1) (tCons (tVar 2) tNil)))
    tNext)))
    (tRet (tVar 1))))
theorem ok_law_namings {P : Program} {w : World} {K : PySem.W.Frag} {mg : Str → Option Value} {base : Heap} (T : Tx K mg) {sp_law_orders : Sp} (C_law_orders : Cal P w K mg base CX0 3 "_law_orders" ["_law_size"] sp_law_orders) {sp : Sp} (hl : ∀ vs H Q E, sp vs H Q E → vs.length = 1)
    (tr : ∀ vs H Q E, sp vs H Q E → t_law_namings K sp_law_orders { nx := fun _ H' => Q .non H', rt := Q } (L2.start ["_law_backs_here", "_law_found", "_law_names", "_law_kept", "_law_t"] vs) H) :
    Cal P w K mg base CX0 4 "_law_namings" ["_law_backs_here"] sp := by
  obtain ⟨fd, F⟩ := T.F_law_namings
  have b : Binds K fd ["_law_backs_here"] [] := F.bindsN fun _ _ _ _ _ _ us hl => match us, hl with | [_], _ => rfl
  refine ⟨⟨fd, ?_, b⟩, F.kp, T.g_law_namings⟩
  refine FunD.ok F sc_law_namings hl fun cdv A outer s H vs Q E hr h => ⟨_, PSs.nox ?_, tr vs H Q E h⟩
  have hr_law_orders : Room 3 _ := hr.mono (by decide)
  have hu64 := hr.units
  unfold t_law_namings
  exact (pss_cons (ps_set (i := 1) sc_law_namings.nd rfl (by first | exact Or.inl rfl | exact Or.inr rfl) (pe_lst pa_nil))
    (pss_cons (ps_for PassesOwn.never rfl (pi_seq (pe_cal C_law_orders hr_law_orders (by rfl) pass0 (pa_cons (pe_callB call_len (by rfl) T.f_len PySem.boot_len (pa_cons (pv 0) pa_nil)) pa_nil))) (pg_name (i := 2) sc_law_namings.nd rfl (by first | exact Or.inl rfl | exact Or.inr rfl)) (pss_cons (ps_setLc (i := 3) (own := [("_law_t", 4)]) (g := (gName 4)) (tt := (tTest (tOp (rEqD K) (tOp (rIxLT K) (tVar 0) (tOp (rIxLT K) (tVar 2) (tVar 4))) (tOp (rIxLT K) (tVar 2) (tOp (rIxLT K) (tVar 0) (tVar 4)))))) rfl sc_law_namings.nd rfl rfl (sw_true rfl rfl rfl (by kernel_rfl)) (pi_range1 (by rfl) T.f_range (pa_cons (pe_callB call_len (by rfl) T.f_len PySem.boot_len (pa_cons (pv 0) pa_nil)) pa_nil)) (blkOk_by (by kernel_rfl)) (fun _ _ _ _ _ => (pg_name (i := 4) sc_law_namings.nd rfl (by first | exact Or.inl rfl | exact Or.inr rfl))) (fun _ _ _ _ _ => (pts_one (pt_cmpR (op_eqD hu64) (pe_ix ix_LT (pv 0) (pe_ix ix_LT (pv 2) (pv 4) (fun _ _ => rfl)) (fun _ _ => rfl)) (pe_ix ix_LT (pv 2) (pe_ix ix_LT (pv 0) (pv 4) (fun _ _ => rfl)) (fun _ _ => rfl)) (nomark _)))) (fun _ _ _ _ _ => (pv 4)))
    (pss_one (ps_if (pt_cmpR (op_eqD hu64) (pe_callB call_len (by rfl) T.f_len PySem.boot_len (pa_cons (pv 3) pa_nil)) (pe_callB call_len (by rfl) T.f_len PySem.boot_len (pa_cons (pv 0) pa_nil)) (nomark _)) (pss_one (ps_expr (pe_bm PySem.F.plainAttrs_list PySem.F.slot_list_append PySem.F.type_list_append mt_append (pv 1) (pa_cons (pv 2) pa_nil)))) pss_nil))))
    (pss_one (ps_ret (pv 1)))))
theorem sc_law_renamed_world : FnScope ["_law_world", "_law_names", "_law_backs_here", "_law_bars", "_law_three"] ["_law_world", "_law_names"] (defScope s_law_renamed_world) := ⟨rfl, rfl, rfl, by decide +kernel, rfl, by decide +kernel, by decide +kernel⟩
def t_law_renamed_world (K : PySem.W.Frag) (sp_law_let sp_law_barred : Sp) : TS :=
    (tSeq (tAsg (tOp (rIxLT K) (tVar 0) (tC (.int 0))) (gName 2))
    (tSeq (tAsg (tLc (iSeq K (tCall sp_law_barred [] E0 (tCons (tVar 0) tNil))) (gName 4) tYes (tTup (tCons (tOp (rIxLT K) (tVar 1) (tOp (rIxLT K) (tVar 4) (tC (.int 0)))) (tCons (tOp (rIxLT K) (tVar 1) (tOp (rIxLT K) (tVar 4) (tC (.int 1)))) (tCons (tOp (rIxLT K) (tVar 1) (tOp (rIxLT K) (tVar 4) (tC (.int 2)))) tNil)))) [4]) (gName 3))
    (tRet (tTup (tCons (tVar 2) (tCons (tCall sp_law_let [] E0 (tCons (tVar 2) (tCons (tVar 3) tNil))) tNil))))))
theorem ok_law_renamed_world {P : Program} {w : World} {K : PySem.W.Frag} {mg : Str → Option Value} {base : Heap} (T : Tx K mg) {sp_law_let sp_law_barred : Sp} (C_law_let : Cal P w K mg base CX0 4 "_law_let" ["_law_backs_here", "_law_classes_here"] sp_law_let) (C_law_barred : Cal P w K mg base CX0 3 "_law_barred" ["_law_world"] sp_law_barred) {sp : Sp} (hl : ∀ vs H Q E, sp vs H Q E → vs.length = 2)
    (tr : ∀ vs H Q E, sp vs H Q E → t_law_renamed_world K sp_law_let sp_law_barred { nx := fun _ H' => Q .non H', rt := Q } (L2.start ["_law_world", "_law_names", "_law_backs_here", "_law_bars", "_law_three"] vs) H) :
    Cal P w K mg base CX0 5 "_law_renamed_world" ["_law_world", "_law_names"] sp := by
  obtain ⟨fd, F⟩ := T.F_law_renamed_world
  have b : Binds K fd ["_law_world", "_law_names"] [] := F.bindsN fun _ _ _ _ _ _ us hl => match us, hl with | [_, _], _ => rfl
  refine ⟨⟨fd, ?_, b⟩, F.kp, T.g_law_renamed_world⟩
  refine FunD.ok F sc_law_renamed_world hl fun cdv A outer s H vs Q E hr h => ⟨_, PSs.nox ?_, tr vs H Q E h⟩
  have hr_law_let : Room 4 _ := hr.mono (by decide)
  have hr_law_barred : Room 3 _ := hr.mono (by decide)
  have hu64 := hr.units
  unfold t_law_renamed_world
  exact (pss_cons (ps_set (i := 2) sc_law_renamed_world.nd rfl (by first | exact Or.inl rfl | exact Or.inr rfl) (pe_ix ix_LT (pv 0) pe_int (fun _ _ => rfl)))
    (pss_cons (ps_setLc (i := 3) (own := [("_law_three", 4)]) (g := (gName 4)) (tt := tYes) rfl sc_law_renamed_world.nd rfl rfl (sw_true rfl rfl rfl (by kernel_rfl)) (pi_seq (pe_cal C_law_barred hr_law_barred (by rfl) pass0 (pa_cons (pv 0) pa_nil))) (blkOk_by (by kernel_rfl)) (fun _ _ _ _ _ => (pg_name (i := 4) sc_law_renamed_world.nd rfl (by first | exact Or.inl rfl | exact Or.inr rfl))) (fun _ _ _ _ _ => pts_nil) (fun _ _ _ _ _ => (pe_tup (pa_cons (pe_ix ix_LT (pv 1) (pe_ix ix_LT (pv 4) pe_int (fun _ _ => rfl)) (fun _ _ => rfl)) (pa_cons (pe_ix ix_LT (pv 1) (pe_ix ix_LT (pv 4) pe_int (fun _ _ => rfl)) (fun _ _ => rfl)) (pa_cons (pe_ix ix_LT (pv 1) (pe_ix ix_LT (pv 4) pe_int (fun _ _ => rfl)) (fun _ _ => rfl)) pa_nil))))))
    (pss_one (ps_ret (pe_tup (pa_cons (pv 2) (pa_cons (pe_cal C_law_let hr_law_let (by rfl) pass0 (pa_cons (pv 2) (pa_cons (pv 3) pa_nil))) pa_nil)))))))
theorem sc_law_shuffled : FnScope ["_law_hand_here", "_law_things", "_law_row", "_law_thing"] ["_law_hand_here", "_law_things"] (defScope s_law_shuffled) := ⟨rfl, rfl, rfl, by decide +kernel, rfl, by decide +kernel, by decide +kernel⟩
def t_law_shuffled (K : PySem.W.Frag) (sp_law_draw : Sp) : TS :=
    (tSeq (tAsg (tLst tNil) (gName 2))
    (tSeq (tFor (iSeq K (tVar 1)) (gName 3)
    (tDrop (tBM K "list" rInsert (tVar 2) (tCons (tCall sp_law_draw [] E0 (tCons (tVar 0) (tCons (tOp rAdd (tCB (rLen K) (tCons (tVar 2) tNil)) (tC (.int 1))) tNil))) (tCons (tVar 3) tNil)))))
    (tRet (tVar 2))))
theorem ok_law_shuffled {P : Program} {w : World} {K : PySem.W.Frag} {mg : Str → Option Value} {base : Heap} (T : Tx K mg) {sp_law_draw : Sp} (C_law_draw : Cal P w K mg base CX0 4 "_law_draw" ["_law_hand_here", "_law_many"] sp_law_draw) {sp : Sp} (hl : ∀ vs H Q E, sp vs H Q E → vs.length = 2)
    (tr : ∀ vs H Q E, sp vs H Q E → t_law_shuffled K sp_law_draw { nx := fun _ H' => Q .non H', rt := Q } (L2.start ["_law_hand_here", "_law_things", "_law_row", "_law_thing"] vs) H) :
    Cal P w K mg base CX0 5 "_law_shuffled" ["_law_hand_here", "_law_things"] sp := by
  obtain ⟨fd, F⟩ := T.F_law_shuffled
  have b : Binds K fd ["_law_hand_here", "_law_things"] [] := F.bindsN fun _ _ _ _ _ _ us hl => match us, hl with | [_, _], _ => rfl
  refine ⟨⟨fd, ?_, b⟩, F.kp, T.g_law_shuffled⟩
  refine FunD.ok F sc_law_shuffled hl fun cdv A outer s H vs Q E hr h => ⟨_, PSs.nox ?_, tr vs H Q E h⟩
  have hr_law_draw : Room 4 _ := hr.mono (by decide)
  have hu64 := hr.units
  unfold t_law_shuffled
  exact (pss_cons (ps_set (i := 2) sc_law_shuffled.nd rfl (by first | exact Or.inl rfl | exact Or.inr rfl) (pe_lst pa_nil))
    (pss_cons (ps_for PassesOwn.never rfl (pi_seq (pv 1)) (pg_name (i := 3) sc_law_shuffled.nd rfl (by first | exact Or.inl rfl | exact Or.inr rfl)) (pss_one (ps_expr (pe_bm PySem.F.plainAttrs_list PySem.F.slot_list_insert PySem.F.type_list_insert mt_insert (pv 2) (pa_cons (pe_cal C_law_draw hr_law_draw (by rfl) pass0 (pa_cons (pv 0) (pa_cons (pe_op op_add (pe_callB call_len (by rfl) T.f_len PySem.boot_len (pa_cons (pv 2) pa_nil)) pe_int) pa_nil))) (pa_cons (pv 3) pa_nil))))))
    (pss_one (ps_ret (pv 2)))))
theorem sc_law_due : FnScope ["_law_backs_here", "_law_pairs", "_law_many", "_law_firsts", "_law_lasts", "_law_k", "_law_pair", "_law_entry"] ["_law_backs_here", "_law_pairs"] (defScope s_law_due) := ⟨rfl, rfl, rfl, by decide +kernel, rfl, by decide +kernel, by decide +kernel⟩
def t_law_due (K : PySem.W.Frag) : TS :=
    (tSeq (tAsg (tCB (rLen K) (tCons (tVar 0) tNil)) (gName 2))
    (tSeq (tPar 3 4 (tCons (tLst tNil) (tCons (tLst tNil) tNil)))
    (tSeq (tFor (iEnumS K (tVar 1)) (gTup K 2 (gCons (gName 5) (gCons (gName 6) gNil)))
    (tSeq (tFor (iSeq K (tVar 6)) (gName 7)
    (tIfS (tOr (tB (tCB (rIsi K) (tCons (tVar 7) (tCons (tC (.ty "bool")) tNil)))) (tOr (tNot (tB (tCB (rIsi K) (tCons (tVar 7) (tCons (tC (.ty "int")) tNil))))) (tOr (tTest (tOp rLt (tVar 7) (tC (.int 0)))) (tTest (tOp rGe (tVar 7) (tVar 2))))))
    (tRet (tTup (tCons (tVar 5) (tCons (tC (.str "pair")) tNil))))
    tNext))
    (tSeq (tIfS (tOr (tTest (tOp (rInD K) (tOp (rIxLT K) (tVar 6) (tC (.int 0))) (tVar 3))) (tTest (tOp (rInD K) (tOp (rIxLT K) (tVar 6) (tC (.int 1))) (tVar 4))))
    (tRet (tTup (tCons (tVar 5) (tCons (tC (.str "double")) tNil))))
    tNext)
    (tSeq (tDrop (tBM K "list" rAppend (tVar 3) (tCons (tOp (rIxLT K) (tVar 6) (tC (.int 0))) tNil)))
    (tDrop (tBM K "list" rAppend (tVar 4) (tCons (tOp (rIxLT K) (tVar 6) (tC (.int 1))) tNil)))))))
    (tSeq (tIfS (tTest (tOp rLt (tCB (rLen K) (tCons (tVar 3) tNil)) (tVar 2)))
    (tRet (tTup (tCons (tCB (rLen K) (tCons (tVar 1) tNil)) (tCons (tC (.str "lacking")) tNil))))
    tNext)
    (tSeq (tFor (iRng1 (tCons (tVar 2) tNil)) (gName 5)
    (tIfS (tTest (tOp (rNeD K) (tOp (rIxLT K) (tVar 0) (tOp (rIxLT K) (tVar 4) (tVar 5))) (tOp (rIxLT K) (tVar 4) (tBM K "list" (rIndexD K) (tVar 3) (tCons (tOp (rIxLT K) (tVar 0) (tOp (rIxLT K) (tVar 3) (tVar 5))) tNil)))))
    (tRet (tTup (tCons (tVar 5) (tCons (tC (.str "back")) tNil))))
    tNext))
    (tRet (tC .non)))))))
theorem ok_law_due {P : Program} {w : World} {K : PySem.W.Frag} {mg : Str → Option Value} {base : Heap} (T : Tx K mg) {sp : Sp} (hl : ∀ vs H Q E, sp vs H Q E → vs.length = 2)
    (tr : ∀ vs H Q E, sp vs H Q E → t_law_due K { nx := fun _ H' => Q .non H', rt := Q } (L2.start ["_law_backs_here", "_law_pairs", "_law_many", "_law_firsts", "_law_lasts", "_law_k", "_law_pair", "_law_entry"] vs) H) :
    Cal P w K mg base CX0 3 "_law_due" ["_law_backs_here", "_law_pairs"] sp := by
  obtain ⟨fd, F⟩ := T.F_law_due
  have b : Binds K fd ["_law_backs_here", "_law_pairs"] [] := F.bindsN fun _ _ _ _ _ _ us hl => match us, hl with | [_, _], _ => rfl
  refine ⟨⟨fd, ?_, b⟩, F.kp, T.g_law_due⟩
  refine FunD.ok F sc_law_due hl fun cdv A outer s H vs Q E hr h => ⟨_, PSs.nox ?_, tr vs H Q E h⟩
  have hu64 := hr.units
  have hu65 := hu65_of hr
  unfold t_law_due
  exact (pss_cons (ps_set (i := 2) sc_law_due.nd rfl (by first | exact Or.inl rfl | exact Or.inr rfl) (pe_callB call_len (by rfl) T.f_len PySem.boot_len (pa_cons (pv 0) pa_nil)))
    (pss_cons (ps_par (by rfl) sc_law_due.nd rfl rfl (by decide) rfl rfl (pa_cons (pe_lst pa_nil) (pa_cons (pe_lst pa_nil) pa_nil)) (by rfl))
    (pss_cons (ps_for PassesOwn.never rfl (pi_enumS (by rfl) T.f_enumerate (pv 1)) (pg_tup rfl (pgs_cons (pg_name (i := 5) sc_law_due.nd rfl (by first | exact Or.inl rfl | exact Or.inr rfl)) (pgs_cons (pg_name (i := 6) sc_law_due.nd rfl (by first | exact Or.inl rfl | exact Or.inr rfl)) pgs_nil))) (pss_cons (ps_for PassesOwn.never rfl (pi_seq (pv 6)) (pg_name (i := 7) sc_law_due.nd rfl (by first | exact Or.inl rfl | exact Or.inr rfl)) (pss_one (ps_if (PW.pt (pw_or (pt_val (pe_callB call_isi (by rfl) T.f_isinstance PyProof.Rows.boot_isinstance (pa_cons (pv 7) (pa_cons (pe_bltn (v := .ty "bool") (u := .type "bool") (by rfl) T.f_bool (by decide +kernel) (by rfl)) pa_nil)))) (pw_or (pt_not (pt_val (pe_callB call_isi (by rfl) T.f_isinstance PyProof.Rows.boot_isinstance (pa_cons (pv 7) (pa_cons (pe_bltn (v := .ty "int") (u := .type "int") (by rfl) T.f_int (by decide +kernel) (by rfl)) pa_nil))))) (pw_or (pt_cmpR op_lt (pv 7) pe_int (nomark _)) (pw_or1 (pt_cmpR op_ge (pv 7) (pv 2) (nomark _))))))) (pss_one (ps_ret (pe_tup (pa_cons (pv 5) (pa_cons pe_str pa_nil))))) pss_nil)))
    (pss_cons (ps_if (PW.pt (pw_or (pt_cmpR (op_inD hu65) (pe_ix ix_LT (pv 6) pe_int (fun _ _ => rfl)) (pv 3) (by rfl)) (pw_or1 (pt_cmpR (op_inD hu65) (pe_ix ix_LT (pv 6) pe_int (fun _ _ => rfl)) (pv 4) (by rfl))))) (pss_one (ps_ret (pe_tup (pa_cons (pv 5) (pa_cons pe_str pa_nil))))) pss_nil)
    (pss_cons (ps_expr (pe_bm PySem.F.plainAttrs_list PySem.F.slot_list_append PySem.F.type_list_append mt_append (pv 3) (pa_cons (pe_ix ix_LT (pv 6) pe_int (fun _ _ => rfl)) pa_nil)))
    (pss_one (ps_expr (pe_bm PySem.F.plainAttrs_list PySem.F.slot_list_append PySem.F.type_list_append mt_append (pv 4) (pa_cons (pe_ix ix_LT (pv 6) pe_int (fun _ _ => rfl)) pa_nil))))))))
    (pss_cons (ps_if (pt_cmpR op_lt (pe_callB call_len (by rfl) T.f_len PySem.boot_len (pa_cons (pv 3) pa_nil)) (pv 2) (nomark _)) (pss_one (ps_ret (pe_tup (pa_cons (pe_callB call_len (by rfl) T.f_len PySem.boot_len (pa_cons (pv 1) pa_nil)) (pa_cons pe_str pa_nil))))) pss_nil)
    (pss_cons (ps_for PassesOwn.never rfl (pi_range1 (by rfl) T.f_range (pa_cons (pv 2) pa_nil)) (pg_name (i := 5) sc_law_due.nd rfl (by first | exact Or.inl rfl | exact Or.inr rfl)) (pss_one (ps_if (pt_cmpR (op_neD hu64) (pe_ix ix_LT (pv 0) (pe_ix ix_LT (pv 4) (pv 5) (fun _ _ => rfl)) (fun _ _ => rfl)) (pe_ix ix_LT (pv 4) (pe_bm PySem.F.plainAttrs_list PySem.F.slot_list_index PySem.F.type_list_index (mt_indexD hu65) (pv 3) (pa_cons (pe_ix ix_LT (pv 0) (pe_ix ix_LT (pv 3) (pv 5) (fun _ _ => rfl)) (fun _ _ => rfl)) pa_nil)) (fun _ _ => rfl)) (nomark _)) (pss_one (ps_ret (pe_tup (pa_cons (pv 5) (pa_cons pe_str pa_nil))))) pss_nil)))
    (pss_one (ps_ret pe_non)))))))
theorem sc_law_due_between : FnScope ["_law_first", "_law_second", "_law_names", "_law_t"] ["_law_first", "_law_second"] (defScope s_law_due_between) := ⟨rfl, rfl, rfl, by decide +kernel, rfl, by decide +kernel, by decide +kernel⟩
def t_law_due_between (K : PySem.W.Frag) (sp_law_namings sp_law_barred sp_law_renamed_world : Sp) : TS :=
    (tSeq (tFor (iSeq K (tCall sp_law_namings [] E0 (tCons (tOp (rIxLT K) (tVar 0) (tC (.int 0))) tNil))) (gName 2)
    (tIfS (tTest (tOp (rEqD K) (tCall sp_law_barred [] E0 (tCons (tCall sp_law_renamed_world [] E0 (tCons (tVar 0) (tCons (tVar 2) tNil))) tNil)) (tCall sp_law_barred [] E0 (tCons (tVar 1) tNil))))
    (tRet (tThen (tLc (iRng1 (tCons (tCB (rLen K) (tCons (tVar 2) tNil)) tNil)) (gName 3) tYes (tTup (tCons (tVar 3) (tCons (tOp (rIxLT K) (tVar 2) (tVar 3)) tNil))) [3]) (kTup K)))
    tNext))
    (tRet (tC .non)))
theorem ok_law_due_between {P : Program} {w : World} {K : PySem.W.Frag} {mg : Str → Option Value} {base : Heap} (T : Tx K mg) {sp_law_namings sp_law_barred sp_law_renamed_world : Sp} (C_law_namings : Cal P w K mg base CX0 4 "_law_namings" ["_law_backs_here"] sp_law_namings) (C_law_barred : Cal P w K mg base CX0 3 "_law_barred" ["_law_world"] sp_law_barred) (C_law_renamed_world : Cal P w K mg base CX0 5 "_law_renamed_world" ["_law_world", "_law_names"] sp_law_renamed_world) {sp : Sp} (hl : ∀ vs H Q E, sp vs H Q E → vs.length = 2)
    (tr : ∀ vs H Q E, sp vs H Q E → t_law_due_between K sp_law_namings sp_law_barred sp_law_renamed_world { nx := fun _ H' => Q .non H', rt := Q } (L2.start ["_law_first", "_law_second", "_law_names", "_law_t"] vs) H) :
    Cal P w K mg base CX0 6 "_law_due_between" ["_law_first", "_law_second"] sp := by
  obtain ⟨fd, F⟩ := T.F_law_due_between
  have b : Binds K fd ["_law_first", "_law_second"] [] := F.bindsN fun _ _ _ _ _ _ us hl => match us, hl with | [_, _], _ => rfl
  refine ⟨⟨fd, ?_, b⟩, F.kp, T.g_law_due_between⟩
  refine FunD.ok F sc_law_due_between hl fun cdv A outer s H vs Q E hr h => ⟨_, PSs.nox ?_, tr vs H Q E h⟩
  have hr_law_namings : Room 4 _ := hr.mono (by decide)
  have hr_law_barred : Room 3 _ := hr.mono (by decide)
  have hr_law_renamed_world : Room 5 _ := hr.mono (by decide)
  have hu64 := hr.units
  unfold t_law_due_between
  exact (pss_cons (ps_for PassesOwn.never rfl (pi_seq (pe_cal C_law_namings hr_law_namings (by rfl) pass0 (pa_cons (pe_ix ix_LT (pv 0) pe_int (fun _ _ => rfl)) pa_nil))) (pg_name (i := 2) sc_law_due_between.nd rfl (by first | exact Or.inl rfl | exact Or.inr rfl)) (pss_one (ps_if (pt_cmpR (op_eqD hu64) (pe_cal C_law_barred hr_law_barred (by rfl) pass0 (pa_cons (pe_cal C_law_renamed_world hr_law_renamed_world (by rfl) pass0 (pa_cons (pv 0) (pa_cons (pv 2) pa_nil))) pa_nil)) (pe_cal C_law_barred hr_law_barred (by rfl) pass0 (pa_cons (pv 1) pa_nil)) (nomark _)) (pss_one (ps_ret (pe_tupleOf (by rfl) T.f_tuple (pe_lc (own := [("_law_t", 3)]) (g := (gName 3)) (tt := tYes) rfl sc_law_due_between.nd (pi_range1 (by rfl) T.f_range (pa_cons (pe_callB call_len (by rfl) T.f_len PySem.boot_len (pa_cons (pv 2) pa_nil)) pa_nil)) (blkOk_by (by kernel_rfl)) (fun _ _ _ _ _ => (pg_name (i := 3) sc_law_due_between.nd rfl (by first | exact Or.inl rfl | exact Or.inr rfl))) (fun _ _ _ _ _ => pts_nil) (fun _ _ _ _ _ => (pe_tup (pa_cons (pv 3) (pa_cons (pe_ix ix_LT (pv 2) (pv 3) (fun _ _ => rfl)) pa_nil)))))))) pss_nil)))
    (pss_one (ps_ret pe_non)))
end Z
set_option Elab.async false
set_option linter.all false
set_option maxRecDepth 100000
set_option maxHeartbeats 1000000
namespace Z
open PySem PySem.Spec PyProof.Rows L2
/-- the form of a walk: what a promise's proof asks -/
abbrev Trp {ι : Type} (K : PySem.W.Frag) (bc : List Cell) (E : XK) (t : TS) (n : Nat) (ts : ι → List Tv) (R : ι → Rv → Prop) (i : ι) : Prop :=
  Tr K bc [] (ts i ++ List.replicate n .any) E t (fun b _ _ => b = bc ∧ R i (.tv (.d .none))) (fun b r => b = bc ∧ R i r) (fun _ => False)
section
variable {K : PySem.W.Frag} {bc cs : List Cell} {Γ : List Tv} {E : XK} {N : List Cell → List Cell → List Tv → Prop} {R : List Cell → Rv → Prop} {X : Xv → Prop} {mg : Str → Option Value}
/-! ### is_whole, is_label -/
def isIntD : PyData → Bool
  | .int _ => true
  | .bool _ => true
  | _ => false
def isBoolD : PyData → Bool
  | .bool _ => true
  | _ => false
def isListD : PyData → Bool
  | .list _ => true
  | _ => false
def isTupD : PyData → Bool
  | .tuple _ => true
  | _ => false
theorem kit_int (d : PyData) : kitB (tyD d) "int" = some (isIntD d) := by cases d <;> (simp only [tyD, isIntD, isBoolD, isListD, isTupD]; decide +kernel)
theorem kit_bool (d : PyData) : kitB (tyD d) "bool" = some (isBoolD d) := by cases d <;> (simp only [tyD, isIntD, isBoolD, isListD, isTupD]; decide +kernel)
theorem kit_list (d : PyData) : kitB (tyD d) "list" = some (isListD d) := by cases d <;> (simp only [tyD, isIntD, isBoolD, isListD, isTupD]; decide +kernel)
theorem kit_tup (d : PyData) : kitB (tyD d) "tuple" = some (isTupD d) := by cases d <;> (simp only [tyD, isIntD, isBoolD, isListD, isTupD]; decide +kernel)
def within (d : PyData) (l h : Int) : Bool := match d with
  | .int i => decide (l ≤ i) && decide (i ≤ h)
  | _ => false
def whole (d : PyData) (l h : Int) : Bool := isIntD d && (!isBoolD d && within d l h)
theorem whole_int {i l h : Int} : whole (.int i) l h = decide (l ≤ i ∧ i ≤ h) := by
  simp [whole, isIntD, isBoolD, within]
abbrev wholeTs : PyData × Int × Int → List Tv := fun x => [.d x.1, .d (.int x.2.1), .d (.int x.2.2)]
abbrev wholeR : PyData × Int × Int → Rv → Prop := fun x r => r = .tv (.d (.bool (whole x.1 x.2.1 x.2.2)))
abbrev spWhole (K : PySem.W.Frag) : Sp := Pro K [] wholeTs wholeR
/-- isinstance(x, T) -/
theorem pn_isi {te : TE} {d : PyData} {T : String} {b : Bool} (h : Pn K bc cs Γ te (· = .d d)) (hb : kitB (tyD d) T = some b) : Pn K bc cs Γ (tCB (rIsi K) (tCons te (tCons (tC (.ty T)) tNil))) (· = .d (.bool b)) :=
  pn_cb (qa_cons h (qa_cons pc_v qa_nil)) (rc_isi hb)
theorem pn_isi2 {te : TE} {d : PyData} (h : Pn K bc cs Γ te (· = .d d)) : Pn K bc cs Γ (tCB (rIsiT K) (tCons te (tCons (tTup (tCons (tC (.ty "list")) (tCons (tC (.ty "tuple")) tNil))) tNil))) (· = .d (.bool (isListD d || isTupD d))) :=
  pn_cb (qa_cons h (qa_cons (pn_cls (vs := [.ty "list", .ty "tuple"]) (qa_cons pc_v (qa_cons pc_v qa_nil)) (by decide)) qa_nil)) (rc_isi2 (kit_list d) (fun e => by rw [kit_tup, e]; rfl) fun e => by rw [e]; rfl)
theorem tr_is_whole (i : PyData × Int × Int) : Trp K [] E (t_is_whole K) 0 wholeTs wholeR i := by
  obtain ⟨d, l, h⟩ := i
  refine tr_retD (x := .bool (whole d l h)) ?_ ⟨rfl, rfl⟩
  refine pn_andV (pn_isi (pd rfl) (kit_int d)) fun h1 => pn_andV (pn_notV (pn_isi (pd rfl) (kit_bool d))) fun h2 => ?_
  cases d with
  | int i => exact pn_chain (pd rfl) (pd rfl) ro_bl (fun _ => pd rfl) (fun _ => ro_bl)
  | bool b => simp [isBoolD] at h2
  | _ => simp [isIntD] at h1
abbrev labelTs : PyData → List Tv := fun x => [.d x]
abbrev labelR : PyData → Rv → Prop := fun x r => r = .tv (.d (.bool (whole x 0 1000000000)))
abbrev spLabel (K : PySem.W.Frag) : Sp := Pro K [] labelTs labelR
/-- is_whole(x, l, h) -/
theorem pn_whole {ta tl th : TE} {d : PyData} {l h : Int} (ha : Pn K bc cs Γ ta (· = .d d)) (hl : Pn K bc cs Γ tl (· = .d (.int l))) (hh : Pn K bc cs Γ th (· = .d (.int h))) : Pn K bc cs Γ (tCall (spWhole K) [] E (tCons ta (tCons tl (tCons th tNil)))) (· = .d (.bool (whole d l h))) :=
  pn_call (d, l, h) (qa_cons ha (qa_cons hl (qa_cons hh qa_nil))) (fun t m => by simp at m; rcases m with rfl | rfl | rfl <;> trivial) fun r e => by rw [e]; exact ⟨trivial, rfl⟩
theorem tr_is_label (i : PyData) : Trp K [] E (t_is_label K (spWhole K)) 0 labelTs labelR i :=
  tr_retD (pn_whole (pd rfl) pc_int pc_int) ⟨rfl, rfl⟩
end
end Z
set_option Elab.async false
set_option linter.all false
set_option maxRecDepth 100000
set_option maxHeartbeats 1000000
namespace Z
open PySem PySem.Spec PyProof.Rows L2
section
variable {K : PySem.W.Frag} {bc cs : List Cell} {Γ : List Tv} {E : XK} {N : List Cell → List Cell → List Tv → Prop} {R : List Cell → Rv → Prop} {X : Xv → Prop} {mg : Str → Option Value}
/-! ### patterns of statements -/
/-- a check that is passed -/
theorem tr_skip {tt : TT} {t u : TS} {b : Bool} (h : Pt K bc cs Γ tt (· = b)) (hb : b = false) (k : Tr K bc cs Γ E u N R X) : Tr K bc cs Γ E (tSeq (tIfS tt t tNext) u) N R X :=
  tr_seq (tr_if h (fun e => by rw [hb] at e; cases e) fun _ => tr_next k)
/-- the last statement is such a check -/
theorem tr_skip1 {tt : TT} {t : TS} {b : Bool} (h : Pt K bc cs Γ tt (· = b)) (hb : b = false) (k : N bc cs Γ) : Tr K bc cs Γ E (tIfS tt t tNext) N R X :=
  tr_if h (fun e => by rw [hb] at e; cases e) fun _ => tr_next k
theorem wk_set {t : Tv} : ∀ {γ Γ : List Tv} {i : Nat}, Wk γ Γ → Wk (γ.set i t) (Γ.set i t)
  | [], [], _, _ => trivial
  | _ :: _, _ :: _, 0, h => ⟨.inr rfl, h.2⟩
  | _ :: _, _ :: _, i + 1, h => ⟨h.1, wk_set (i := i) h.2⟩
  | [], _ :: _, _, h => h.elim
  | _ :: _, [], _, h => h.elim
theorem wk_any {t : Tv} : ∀ {Γ : List Tv} {i : Nat}, Wk (Γ.set i t) (Γ.set i .any)
  | [], _ => trivial
  | _ :: Γ, 0 => ⟨.inl rfl, Wk.refl Γ⟩
  | _ :: _, i + 1 => ⟨.inr rfl, wk_any (i := i)⟩
theorem wk_trans : ∀ {a b c : List Tv}, Wk a b → Wk b c → Wk a c
  | [], [], [], _, _ => trivial
  | x :: a, y :: b, z :: c, h, g => ⟨by
      rcases g.1 with e | e
      · exact .inl e
      · rw [e]; exact h.1, wk_trans h.2 g.2⟩
  | [], _ :: _, _, h, _ => h.elim
  | _ :: _, [], _, h, _ => h.elim
  | _, [], _ :: _, _, g => g.elim
  | _, _ :: _, [], _, g => g.elim
/-- a loop whose turns leave nothing -/
theorem tr_chk {wi : TI} {i : Nat} {tb u : TS} {ds : List PyData} (hs : Si K bc cs Γ wi (· = ds)) (hΓ : Γ.set i .any = Γ)
    (body : ∀ (j : Nat) d, ds[j]? = some d → Tr K bc cs (Γ.set i (.d d)) E tb (fun b c g => b = bc ∧ c = cs ∧ Wk g Γ) R X) (k : Tr K bc cs Γ E u N R X) : Tr K bc cs Γ E (tSeq (tFor wi (gName i) tb) u) N R X := by
  refine tr_seq (tr_for hs (fun _ _ b c γ => b = bc ∧ c = cs ∧ Wk γ Γ) (fun _ _ => ⟨rfl, rfl, Wk.refl Γ⟩) ?_ ?_)
  · rintro ds' j d b c γ rfl hd ⟨rfl, rfl, hw⟩
    exact ⟨_, _, tg_name, tr_wk (wk_set hw) (body j d hd)⟩
  · rintro ds' b c γ _ ⟨rfl, rfl, hw⟩
    exact tr_wk hw k
/-- the same, the last statement -/
theorem tr_chk1 {wi : TI} {i : Nat} {tb : TS} {ds : List PyData} (hs : Si K bc cs Γ wi (· = ds)) (hΓ : Γ.set i .any = Γ)
    (body : ∀ (j : Nat) d, ds[j]? = some d → Tr K bc cs (Γ.set i (.d d)) E tb (fun b c g => b = bc ∧ c = cs ∧ Wk g Γ) R X) (k : ∀ γ, Wk γ Γ → N bc cs γ) : Tr K bc cs Γ E (tFor wi (gName i) tb) N R X := by
  refine tr_for hs (fun _ _ b c γ => b = bc ∧ c = cs ∧ Wk γ Γ) (fun _ _ => ⟨rfl, rfl, Wk.refl Γ⟩) ?_ ?_
  · rintro ds' j d b c γ rfl hd ⟨rfl, rfl, hw⟩
    exact ⟨_, _, tg_name, tr_wk (wk_set hw) (body j d hd)⟩
  · rintro ds' b c γ _ ⟨rfl, rfl, hw⟩
    exact k γ hw
/-- a loop of checks: a target of one name, one if -/
theorem wk_back {t : Tv} {i : Nat} (hΓ : Γ.set i .any = Γ) : Wk (Γ.set i t) Γ := by
  have := wk_any (Γ := Γ) (i := i) (t := t)
  rw [hΓ] at this
  exact this
/-! ### Ties.__init__, Ties.__eq__ -/
abbrev BksI : Type := { β : List Nat // Bks β }
abbrev tiesTs : BksI → List Tv := fun β => [.d (.list (isD β.1))]
abbrev tiesNs : BksI → List (Str × Tv) := fun β => tiesN β.1
abbrev spTies (K : PySem.W.Frag) : Sp := ProC K (cT K) tiesTs tiesNs
theorem pn_lenL {te : TE} {t : Tv} {ds : List PyData} (h : Pn K bc cs Γ te (· = t)) (i : IsLst K bc cs t ds) : Pn K bc cs Γ (tCB (rLen K) (tCons te tNil)) (· = .d (.int ds.length)) := pn_cb (qa_cons h qa_nil) (rc_len i)
theorem pn_lenD {te : TE} {ds : List PyData} (h : Pn K bc cs Γ te (· = .d (.list ds))) : Pn K bc cs Γ (tCB (rLen K) (tCons te tNil)) (· = .d (.int ds.length)) := pn_lenL h (.d ds)
theorem pn_lenT {te : TE} {ds : List PyData} (h : Pn K bc cs Γ te (· = .d (.tuple ds))) : Pn K bc cs Γ (tCB (rLen K) (tCons te tNil)) (· = .d (.int ds.length)) := pn_cb (qa_cons h qa_nil) rc_lenT
theorem tr_Ties_init (T : Tx K mg) (β : BksI) : Tr K [insC K (cT K) []] [] ((.bas 0 :: tiesTs β) ++ List.replicate 2 .any) E (t_Ties_init K (spWhole K)) (fun b _ _ => b = [insC K (cT K) (tiesNs β)]) (fun b r => False) (fun _ => False) := by
  obtain ⟨β, hβ⟩ := β
  have hl := @isD_len β
  refine tr_skip (qt_not (qt_B (pn_isi2 (pd rfl)))) rfl ?_
  refine tr_skip (qt_not (qt_of (pn_chain pc_int (pn_lenD (pd rfl)) ro_bl (fun _ => pc_int) (fun _ => ro_bl)))) (by
    have h1 := hβ.lo
    have h2 := hβ.hi
    rw [hl]
    have e1 : decide ((2 : Int) ≤ (β.length : Int)) = true := decide_eq_true (by omega)
    have e2 : decide ((β.length : Int) ≤ (4 : Int)) = true := decide_eq_true (by omega)
    rw [e1, e2]
    rfl) ?_
  refine tr_chk (si_seqL (pd rfl)) rfl (fun j d hd => ?_) ?_
  · obtain ⟨hj, rfl⟩ := isD_get hd
    refine tr_skip1 (qt_not (qt_B (pn_whole (pd rfl) pc_int (pd_op (pn_lenD (pd rfl)) pc_int ro_int)))) ?_ ⟨rfl, rfl, wk_back rfl⟩
    have h1 := hβ.lt j hj
    rw [whole_int, hl]
    have e : decide ((0 : Int) ≤ (bk β j : Int) ∧ (bk β j : Int) ≤ (β.length : Int) - 1) = true := decide_eq_true ⟨by omega, by omega⟩
    rw [e]
    rfl
  refine tr_chk (si_rng1 (n := β.length) (by rw [← hl]; exact pn_lenD (pd rfl)) (by have := hβ.hi; omega)) rfl (fun j d hd => ?_) ?_
  · obtain ⟨hj, rfl⟩ := rgD_get hd
    rw [Nat.zero_add]
    have h1 := hβ.lt j hj
    refine tr_skip1 (qt_of (pd_op (pd_op (pd rfl) (pd_op (pd rfl) (pd rfl) (ro_ixL (isD_atI hj))) (ro_ixL (isD_atI h1))) (pd rfl) (ro_ne sh_int sh_int))) ?_ ⟨rfl, rfl, wk_back rfl⟩
    rw [hβ.inv j hj, eqv_int]
    simp
  refine tr_seq (tr_fld (t := .d (.tuple (isD β))) rfl rfl (pn_tupL (pd rfl) (.d _)) trivial T.c_Ties T.n_Ties_backs rfl (by decide) ?_)
  refine tr_fld (t := .d (iD β.length)) rfl rfl (by rw [← hl]; exact pn_lenD (pd rfl)) trivial T.c_Ties T.n_Ties_many (by kernel_rfl) (by show 1 < 1000; decide) rfl
end
end Z
set_option Elab.async false
set_option linter.all false
set_option maxRecDepth 100000
set_option maxHeartbeats 1000000
namespace Z
open PySem PySem.Spec PyProof.Rows L2
section
variable {K : PySem.W.Frag} {bc cs : List Cell} {Γ : List Tv} {E : XK} {N : List Cell → List Cell → List Tv → Prop} {R : List Cell → Rv → Prop} {X : Xv → Prop} {mg : Str → Option Value}
theorem pn_ties (T : Tx K mg) {te : TE} {β : List Nat} (h : Pn K bc cs Γ te (· = .sem (tiesS K β))) : Pn K bc cs Γ (tFld K te "backs") (· = .d (.tuple (isD β))) := pn_fld h rfl T.c_Ties T.n_Ties_backs
theorem pn_many (T : Tx K mg) {te : TE} {β : List Nat} (h : Pn K bc cs Γ te (· = .sem (tiesS K β))) : Pn K bc cs Γ (tFld K te "many") (· = .d (iD β.length)) := pn_fld h (by kernel_rfl) T.c_Ties T.n_Ties_many
/-- is_whole(e, 0, ties.many - 1), e below -/
theorem qt_in (T : Tx K mg) {ta te : TE} {β : List Nat} {n : Nat} (h : Pn K bc cs Γ ta (· = .d (iD n))) (g : Pn K bc cs Γ te (· = .sem (tiesS K β))) (hn : n < β.length) : Pn K bc cs Γ (tCall (spWhole K) [] E (tCons ta (tCons (tC (.int 0)) (tCons (tOp rSub (tFld K te "many") (tC (.int 1))) tNil)))) (· = .d (.bool true)) := by
  refine (pn_whole h pc_int (pd_op (pn_many T g) pc_int ro_int)).mono fun t e => ?_
  rw [e, whole_int]
  have e2 : decide ((0 : Int) ≤ (n : Int) ∧ (n : Int) ≤ (β.length : Int) - 1) = true := decide_eq_true ⟨by omega, by omega⟩
  rw [e2]
/-! ### _row_word -/
structure RowI where
  β : List Nat
  r : List Nat
  ok : ∀ x, x ∈ r → x < β.length
abbrev rowTs (K : PySem.W.Frag) : RowI → List Tv := fun i => [.sem (tiesS K i.β), .d (.list (isD i.r)), .d (iD i.r.length)]
abbrev rowR : RowI → Rv → Prop := fun _ r => r = .tv (.d .none)
abbrev spRow (K : PySem.W.Frag) : Sp := Pro K [] (rowTs K) rowR
theorem bk_mem {l : List Nat} {i : Nat} (h : i < l.length) : bk l i ∈ l := by
  unfold bk
  rw [List.getD_eq_getElem?_getD, List.getElem?_eq_getElem h]
  exact List.getElem_mem h
theorem tr_row_word (T : Tx K mg) (i : RowI) : Trp K [] E (t_row_word K (spWhole K)) 1 (rowTs K) rowR i := by
  obtain ⟨β, r, ok⟩ := i
  refine tr_skip (qt_not (qt_B (pn_isi2 (pd rfl)))) rfl ?_
  refine tr_skip (qt_of (pd_op (pn_lenD (pd rfl)) (pd rfl) (ro_ne sh_int sh_int))) (by rw [isD_len, eqv_int]; simp) ?_
  refine tr_chk (si_seqL (pd rfl)) rfl (fun j d hd => ?_) (tr_retD pc_non ⟨rfl, rfl⟩)
  obtain ⟨hj, rfl⟩ := isD_get hd
  exact tr_skip1 (qt_not (qt_B (qt_in T (pd rfl) (ps rfl) (ok _ (bk_mem hj))))) rfl ⟨rfl, rfl, wk_back rfl⟩
/-! ### _check -/
/-- a company's list of guests, its rows -/
structure CoI where
  β : List Nat
  g : List Nat
  rows : List (List Nat)
  few : g.length ≤ 60
  len : rows.length = g.length
  lab : ∀ x, x ∈ g → x ≤ 1000000000
  asc : ∀ i, i + 1 < g.length → bk g i < bk g (i + 1)
  row : ∀ (i : Nat) (r : List Nat), rows[i]? = some r → r.length = i ∧ ∀ x, x ∈ r → x < β.length
def rowsD (l : List (List Nat)) : List PyData := l.map fun r => .list (isD r)
theorem rowsD_at {l : List (List Nat)} {i : Nat} {r : List Nat} (h : l[i]? = some r) : (rowsD l)[i]? = some (.list (isD r)) := by
  unfold rowsD
  rw [List.getElem?_map, h]
  rfl
theorem rowsD_len {l : List (List Nat)} : (rowsD l).length = l.length := by simp [rowsD]
theorem rowsD_get {l : List (List Nat)} {i : Nat} {d : PyData} (h : (rowsD l)[i]? = some d) : ∃ r, l[i]? = some r ∧ d = .list (isD r) := by
  unfold rowsD at h
  rw [List.getElem?_map] at h
  cases e : l[i]? with
  | none =>
    rw [e] at h
    cases h
  | some r =>
    rw [e] at h
    exact ⟨r, rfl, (Option.some.inj h).symm⟩
abbrev coTs (K : PySem.W.Frag) : CoI → List Tv := fun i => [.sem (tiesS K i.β), .d (.list (isD i.g)), .d (.list (rowsD i.rows))]
abbrev chkR : CoI → Rv → Prop := fun _ r => r = .tv (.d .none)
abbrev spChk (K : PySem.W.Frag) : Sp := Pro K [] (coTs K) chkR
theorem pn_label {ta : TE} {d : PyData} (ha : Pn K bc cs Γ ta (· = .d d)) : Pn K bc cs Γ (tCall (spLabel K) [] E (tCons ta tNil)) (· = .d (.bool (whole d 0 1000000000))) :=
  pn_call d (qa_cons ha qa_nil) (fun t m => by simp at m; rw [m]; trivial) fun r e => by rw [e]; exact ⟨trivial, rfl⟩
theorem tr_check (T : Tx K mg) (i : CoI) : Trp K [] E (t_check K (spRow K) (spLabel K)) 2 (coTs K) chkR i := by
  obtain ⟨β, g, rows, few, len, lab, asc, row⟩ := i
  have hg := @isD_len g
  have hr := @rowsD_len rows
  refine tr_skip (qt_or (qt_not (qt_B (pn_isi2 (pd rfl)))) fun _ => qt_not (qt_B (pn_isi2 (pd rfl)))) rfl ?_
  refine tr_skip (qt_of (pd_op (pn_lenD (pd rfl)) pc_int ro_bl)) (decide_eq_false (by rw [hg]; omega)) ?_
  refine tr_chk (si_rng1 (n := g.length) (by rw [← hg]; exact pn_lenD (pd rfl)) (by omega)) rfl (fun j d hd => ?_) ?_
  · obtain ⟨hj, rfl⟩ := rgD_get hd
    rw [Nat.zero_add]
    have hjr : j < rows.length := by omega
    obtain ⟨h1, h2⟩ := row j rows[j] (List.getElem?_eq_getElem hjr)
    refine tr_skip (qt_not (qt_B (pn_label (pd_op (pd rfl) (pd rfl) (ro_ixL (isD_atI hj)))))) (by
      have := lab _ (bk_mem hj)
      rw [whole_int]
      have e : decide ((0 : Int) ≤ (bk g j : Int) ∧ (bk g j : Int) ≤ 1000000000) = true := decide_eq_true ⟨by omega, by omega⟩
      rw [e]
      rfl) ?_
    refine tr_skip (qt_and (a := decide ((0 : Int) < (j : Int))) (b := false) (qt_of (pd_op (pd rfl) pc_int ro_bl)) fun hp => ?_) (by simp) ?_
    · have hp' : 0 < j := by
        have := of_decide_eq_true hp
        omega
      have ej : (j : Int) - 1 = ((j - 1 : Nat) : Int) := by omega
      have a1 := asc (j - 1) (by omega)
      have e2 : j - 1 + 1 = j := by omega
      rw [e2] at a1
      refine (qt_of (pd_op (pd_op (pd rfl) (pd_op (pd rfl) pc_int ro_int) (ro_ixL (x := iD (bk g (j - 1))) (by rw [ej]; exact isD_atI (show j - 1 < g.length by omega)))) (pd_op (pd rfl) (pd rfl) (ro_ixL (isD_atI hj))) ro_bl)).mono fun b e => ?_
      rw [e]
      exact decide_eq_false (by omega)
    refine tr_skip (qt_of (pd_op (pd rfl) (pn_lenD (pd rfl)) ro_bl)) (decide_eq_false (by rw [hr]; omega)) ?_
    refine tr_seq (tr_set (t := .d .none) (pn_call (⟨β, rows[j], h2⟩ : RowI) (qa_cons (ps rfl) (qa_cons (pd_op (pd rfl) (pd rfl) (ro_ixL (atI_nat' (rowsD_at (List.getElem?_eq_getElem hjr))))) (qa_cons (by rw [h1]; exact pd rfl) qa_nil)))
      (fun t m => by simp at m; rcases m with rfl | rfl | rfl <;> trivial) fun r e => by rw [e]; exact ⟨trivial, rfl⟩) ?_)
    exact tr_skip1 (qt_of (pd_op (pd rfl) pc_non ro_isNot)) rfl ⟨rfl, rfl, ⟨.inr rfl, .inr rfl, .inr rfl, .inl rfl, .inl rfl, trivial⟩⟩
  · exact tr_skip1 (qt_of (pd_op (pn_lenD (pd rfl)) (pn_lenD (pd rfl)) ro_bl)) (decide_eq_false (by rw [hr, hg]; omega)) ⟨rfl, rfl⟩
/-! ### Company -/
def rowsT (l : List (List Nat)) : List PyData := l.map fun r => .tuple (isD r)
abbrev coN (K : PySem.W.Frag) (β g : List Nat) (rows : List (List Nat)) : List (Str × Tv) := [("ties", .sem (tiesS K β)), ("guests", .d (.tuple (isD g))), ("rows", .d (.tuple (rowsT rows)))]
def coS (K : PySem.W.Frag) (β g : List Nat) (rows : List (List Nat)) : Sm := insS K (cC K) (coN K β g rows)
abbrev spCo (K : PySem.W.Frag) : Sp := ProC K (cC K) (coTs K) (fun i => coN K i.β i.g i.rows)
/-- [f(x) for x in l] by place -/
theorem pf_map {wi : TI} {i : Nat} {te : TE} {ds es : List PyData} (hs : Si K bc cs Γ wi (· = ds)) (hz : ds.length ≤ 1000) (hl : es.length = ds.length) (hΓ : (wipeT Γ [i]) = Γ)
    (h : ∀ (j : Nat) d, ds[j]? = some d → ∃ y, es[j]? = some y ∧ Pn K bc cs (Γ.set i (.d d)) te (· = .d y)) : Pf K bc cs Γ (tLc wi (gName i) tYes te [i]) (· = es) := by
  refine pf_lc (T := (· = ds)) hs (fun _ j acc => acc = es.take j) (fun _ _ => by simp) (fun ds' j acc e a => by rw [a, List.length_take]; omega) ?_ ?_
  · rintro ds' j d rfl hd
    obtain ⟨y, hy, hp⟩ := h j d hd
    refine ⟨_, _, tg_name, fun x hx => hx, (· = true), qt_yes, fun _ => ?_, fun e => by cases e⟩
    rw [hΓ]
    exact hp.mono fun t e => ⟨y, e, fun acc a => by rw [a]; exact (List.take_succ_eq_append_getElem (List.getElem?_eq_some_iff.mp hy).1 |>.trans (by rw [(List.getElem?_eq_some_iff.mp hy).2])).symm⟩
  · rintro ds' acc rfl e
    rw [e, ← hl, List.take_length]
theorem tr_Company_init (T : Tx K mg) (i : CoI) : Tr K [insC K (cC K) []] [] ((.bas 0 :: coTs K i) ++ List.replicate 1 .any) E (t_Company_init K (spChk K)) (fun b _ _ => b = [insC K (cC K) (coN K i.β i.g i.rows)]) (fun b r => False) (fun _ => False) := by
  refine tr_seq (tr_drop (T := (· = .d .none)) (pn_call i (qa_cons (ps rfl) (qa_cons (pd rfl) (qa_cons (pd rfl) qa_nil))) (fun t m => by simp at m; rcases m with rfl | rfl | rfl <;> trivial) fun r e => by rw [e]; exact ⟨trivial, rfl⟩) fun _ _ => ?_)
  refine tr_seq (tr_fld (t := .sem (tiesS K i.β)) rfl rfl (ps rfl) trivial T.c_Company T.n_Company_ties rfl (by decide) ?_)
  refine tr_seq (tr_fld (t := .d (.tuple (isD i.g))) rfl rfl (pn_tupL (pd rfl) (.d _)) trivial T.c_Company T.n_Company_guests (by kernel_rfl) (by show 1 < 1000; decide) ?_)
  refine tr_fld (t := .d (.tuple (rowsT i.rows))) rfl rfl ?_ trivial T.c_Company T.n_Company_rows (by kernel_rfl) (by show 2 < 1000; decide) rfl
  refine pn_tupL (pf_map (ds := rowsD i.rows) (es := rowsT i.rows) (si_seqL (pd rfl)) (by rw [rowsD_len, i.len]; have := i.few; omega) (by simp [rowsD, rowsT]) rfl fun j d hd => ?_).psd (.s _)
  obtain ⟨r, hr, rfl⟩ := rowsD_get hd
  exact ⟨.tuple (isD r), by unfold rowsT; rw [List.getElem?_map, hr]; rfl, pn_tupL (pd rfl) (.d _)⟩
end
end Z
set_option Elab.async false
set_option linter.all false
set_option maxRecDepth 100000
set_option maxHeartbeats 1000000
namespace Z
open PySem PySem.Spec PyProof.Rows L2
section
variable {K : PySem.W.Frag} {bc cs : List Cell} {Γ : List Tv} {E : XK} {N : List Cell → List Cell → List Tv → Prop} {R : List Cell → Rv → Prop} {X : Xv → Prop} {mg : Str → Option Value}
/-! ### Company.tie_at, len(company) -/
theorem pn_coTies (T : Tx K mg) {te : TE} {β g : List Nat} {rows : List (List Nat)} (h : Pn K bc cs Γ te (· = .sem (coS K β g rows))) : Pn K bc cs Γ (tFld K te "ties") (· = .sem (tiesS K β)) := pn_fld h rfl T.c_Company T.n_Company_ties
theorem pn_coGuests (T : Tx K mg) {te : TE} {β g : List Nat} {rows : List (List Nat)} (h : Pn K bc cs Γ te (· = .sem (coS K β g rows))) : Pn K bc cs Γ (tFld K te "guests") (· = .d (.tuple (isD g))) := pn_fld h (by kernel_rfl) T.c_Company T.n_Company_guests
theorem pn_coRows (T : Tx K mg) {te : TE} {β g : List Nat} {rows : List (List Nat)} (h : Pn K bc cs Γ te (· = .sem (coS K β g rows))) : Pn K bc cs Γ (tFld K te "rows") (· = .d (.tuple (rowsT rows))) := pn_fld h (by kernel_rfl) T.c_Company T.n_Company_rows
/-- the tie of an earlier guest to a later one -/
def tie (β : List Nat) (rows : List (List Nat)) (i j : Nat) : Nat := bk β (bk (rows.getD j []) i)
structure TieI where
  co : CoI
  i : Nat
  j : Nat
  ij : i < j
  jn : j < co.g.length
  bl : Bks co.β
theorem rowsT_at {l : List (List Nat)} {i : Nat} (h : i < l.length) : (rowsT l)[i]? = some (.tuple (isD (l.getD i []))) := by
  unfold rowsT
  rw [List.getElem?_map, List.getElem?_eq_getElem h, List.getD_eq_getElem?_getD, List.getElem?_eq_getElem h]
  rfl
theorem CoI.at (c : CoI) {j : Nat} (h : j < c.g.length) : (c.rows.getD j []).length = j ∧ ∀ x, x ∈ c.rows.getD j [] → x < c.β.length := by
  have hl := c.len
  have h2 : j < c.rows.length := by omega
  have := c.row j c.rows[j] (List.getElem?_eq_getElem h2)
  rw [List.getD_eq_getElem?_getD, List.getElem?_eq_getElem h2]
  exact this
theorem tie_lt (x : TieI) : tie x.co.β x.co.rows x.i x.j < x.co.β.length := by
  obtain ⟨h1, h2⟩ := x.co.at x.jn
  exact x.bl.lt _ (h2 _ (bk_mem (by rw [h1]; exact x.ij)))
abbrev tieTs (K : PySem.W.Frag) : TieI → List Tv := fun x => [.sem (coS K x.co.β x.co.g x.co.rows), .d (iD x.i), .d (iD x.j)]
abbrev tieR : TieI → Rv → Prop := fun x r => r = .tv (.d (iD (tie x.co.β x.co.rows x.i x.j)))
abbrev spTie (K : PySem.W.Frag) : Sp := Pro K [] (tieTs K) tieR
theorem tr_tie_at (T : Tx K mg) (x : TieI) : Trp K [] E (t_Company_tie_at K) 0 (tieTs K) tieR x := by
  obtain ⟨h1, h2⟩ := x.co.at x.jn
  have hij := x.ij
  have hl := x.co.len
  have hjn := x.jn
  refine tr_skip (qt_of (pd_op (pd rfl) (pd rfl) ro_bl)) (decide_eq_false (by omega)) ?_
  refine tr_retD (pd_op (pn_ties T (pn_coTies T (ps rfl))) (pd_op (pd_op (pn_coRows T (ps rfl)) (pd rfl) (ro_ixT (atI_nat' (rowsT_at (by omega))))) (pd rfl) (ro_ixT (isD_atI (by rw [h1]; exact hij)))) (ro_ixT (isD_atI ?_))) ⟨rfl, rfl⟩
  exact h2 _ (bk_mem (by rw [h1]; exact hij))
abbrev lenTs (K : PySem.W.Frag) : CoI → List Tv := fun c => [.sem (coS K c.β c.g c.rows)]
abbrev lenR : CoI → Rv → Prop := fun c r => r = .tv (.d (iD c.g.length))
abbrev spLen (K : PySem.W.Frag) : Sp := Pro K [] (lenTs K) lenR
theorem tr_len (T : Tx K mg) (c : CoI) : Trp K [] E (t_Company_len K) 0 (lenTs K) lenR c := by
  refine tr_retD ?_ ⟨rfl, rfl⟩
  rw [← isD_len (l := c.g)]
  exact pn_lenT (pn_coGuests T (ps rfl))
/-- len(company) -/
theorem pn_len (c : CoI) {te : TE} (h : Pn K bc cs Γ te (· = .sem (coS K c.β c.g c.rows))) : Pn K bc cs Γ (tCB (rOwnLen (He.ga K "Company") (spLen K)) (tCons te tNil)) (· = .d (iD c.g.length)) := fun M bs ls σ H S Q q =>
  h M bs ls σ H S _ fun t v H1 ht S1 k1 hv => by
    subst ht
    have hv0 := hv
    obtain ⟨a, o, rfl, ha, dx, fs, rfl, hf⟩ := hv
    refine ⟨a, dx, fs, rfl, hid_ex _ _ ha, c, _, [], S1.callee0 (ts := lenTs K c) (fun t m => by simp at m; rw [m]; trivial) ⟨hv0, trivial⟩, fun r v H2 hr o cb k2 hv2 => ?_⟩
    subst hr
    have hv3 : Dq K _ v (iD c.g.length) := hv2
    cases hv3
    have := c.few
    exact ⟨c.g.length, rfl, by omega, q _ _ H2 rfl (S1.ex k2.ex0) (k1.trans (Kp.of_ex k2.ex0)) (.int _)⟩
/-! ### Ties.__eq__ -/
abbrev teqTs (K : PySem.W.Frag) : List Nat × List Nat → List Tv := fun x => [.sem (tiesS K x.1), .sem (tiesS K x.2)]
abbrev teqR : List Nat × List Nat → Rv → Prop := fun x r => r = .tv (.d (.bool (decide (x.1 = x.2))))
abbrev spTeq (K : PySem.W.Frag) : Sp := Pro K [] (teqTs K) teqR
theorem kit_own {C : Addr} : PySem.W.kitOne K (.ref C) (.ref C) = some true := by
  unfold PySem.W.kitOne
  rw [if_pos (beq_self_eq_true _)]
/-- isinstance of an own object -/
theorem pn_isiO {te : TE} {C : Addr} {ns : List (Str × Tv)} (h : Pn K bc cs Γ te (· = .sem (insS K C ns))) (c : Cls K C) (i : SlX.SIsi K C) : Pn K bc cs Γ (tCB (rIsi K) (tCons te (tCons (tC (.ref C)) tNil))) (· = .d (.bool true)) :=
  pn_cb (qa_cons h (qa_cons pc_v qa_nil)) (rc_val fun M bs ls σ H vs S hv Q q => by
    obtain ⟨v, w, rfl, h1, h2⟩ := hv.two
    have e : w = .ref C := h2
    subst e
    obtain ⟨a, o, rfl, ha, dx, fs, rfl, hf⟩ := h1
    exact ⟨_, _, _, _, true, rfl, .own C, .base (.ins (hid_ex _ _ ha) c i.ca i.cn i.ct i.cm), kit_own, q _ (.bl true)⟩)
theorem isD_inj {a b : List Nat} (h : isD a = isD b) : a = b := by
  unfold isD at h
  induction a generalizing b with
  | nil => cases b with
    | nil => rfl
    | cons _ _ => cases h
  | cons x a ih => cases b with
    | nil => cases h
    | cons y b =>
      rw [List.map_cons, List.map_cons] at h
      injection h with h1 h2
      injection h1 with h1
      rw [ih h2, Int.ofNat_inj.mp h1]
theorem eqv_isT {a b : List Nat} : PyData.eqv (.tuple (isD a)) (.tuple (isD b)) = decide (a = b) := by
  have na : nb (.tuple (isD a)) = true := by simpa [nb] using nb_is a
  have nb' : nb (.tuple (isD b)) = true := by simpa [nb] using nb_is b
  cases q : decide (a = b) with
  | true => rw [of_decide_eq_true q]; exact eqv_self nb'
  | false =>
    refine eqv_ne na nb' fun e => ?_
    injection e with e
    exact (of_decide_eq_false q) (isD_inj e)
theorem tr_teq (T : Tx K mg) (x : List Nat × List Nat) : Trp K [] E (t_Ties_eq K) 0 (teqTs K) teqR x := by
  refine tr_retD (x := .bool (true && decide (x.1 = x.2))) (pn_andV (pn_isiO (ps rfl) T.c_Ties T.isT) fun _ => ?_) ⟨rfl, rfl⟩
  rw [← eqv_isT]
  exact pd_op (pn_ties T (ps rfl)) (pn_ties T (ps rfl)) (ro_eq ((fl_isT _).sh (by decide)) ((fl_isT _).sh (by decide)))
/-! ### Book -/
abbrev bookN (K : PySem.W.Frag) (β : List Nat) (B : T3 → Bool) : List (Str × Tv) := [("ties", .sem (tiesS K β)), ("barred", .d (.tuple (barD β.length B))), ("least_barred", .sem anyS), ("grid", .d (gridD β.length B))]
def bookS (K : PySem.W.Frag) (β : List Nat) (B : T3 → Bool) : Sm := insS K (cB K) (bookN K β B)
theorem pn_bTies (T : Tx K mg) {te : TE} {β : List Nat} {B : T3 → Bool} (h : Pn K bc cs Γ te (· = .sem (bookS K β B))) : Pn K bc cs Γ (tFld K te "ties") (· = .sem (tiesS K β)) := pn_fld h rfl T.c_Book T.n_Book_ties
theorem pn_bBar (T : Tx K mg) {te : TE} {β : List Nat} {B : T3 → Bool} (h : Pn K bc cs Γ te (· = .sem (bookS K β B))) : Pn K bc cs Γ (tFld K te "barred") (· = .d (.tuple (barD β.length B))) := pn_fld h (by kernel_rfl) T.c_Book T.n_Book_barred
theorem pn_bGrid (T : Tx K mg) {te : TE} {β : List Nat} {B : T3 → Bool} (h : Pn K bc cs Γ te (· = .sem (bookS K β B))) : Pn K bc cs Γ (tFld K te "grid") (· = .d (gridD β.length B)) := pn_fld h (by kernel_rfl) T.c_Book T.n_Book_grid
abbrev cbTs (K : PySem.W.Frag) : List Nat × (T3 → Bool) → List Tv := fun x => [.sem (bookS K x.1 x.2), .d (.tuple (isD x.1))]
abbrev cbR : List Nat × (T3 → Bool) → Rv → Prop := fun _ r => r = .tv (.d .none)
abbrev spCb (K : PySem.W.Frag) : Sp := Pro K [] (cbTs K) cbR
theorem tr_check_backs (T : Tx K mg) (x : List Nat × (T3 → Bool)) : Trp K [] E (t_Book_check_backs K) 0 (cbTs K) cbR x := by
  refine tr_skip1 (qt_of (pd_op (pd rfl) (pn_ties T (pn_bTies T (ps rfl))) (ro_ne ((fl_isT _).sh (by decide)) ((fl_isT _).sh (by decide))))) ?_ ⟨rfl, rfl⟩
  rw [eqv_isT]
  simp
/-- a company and a book of the same ties -/
structure FauI where
  co : CoI
  B : T3 → Bool
  bl : Bks co.β
def free (c : CoI) (B : T3 → Bool) : Prop := ∀ i j k, i < j → j < k → k < c.g.length → B (tie c.β c.rows i j, tie c.β c.rows j k, tie c.β c.rows i k) = false
abbrev fauTs (K : PySem.W.Frag) : FauI → List Tv := fun x => [.sem (bookS K x.co.β x.B), .sem (coS K x.co.β x.co.g x.co.rows)]
abbrev fauR : FauI → Rv → Prop := fun x r => (r = .tv (.d .none) ∧ free x.co x.B) ∨ ∃ ds, r = .tv (.d (.tuple ds)) ∧ ¬ free x.co x.B
abbrev spFau (K : PySem.W.Frag) : Sp := Pro K [] (fauTs K) fauR
theorem pn_tie (x : TieI) {te ti tj : TE} (h : Pn K bc cs Γ te (· = .sem (coS K x.co.β x.co.g x.co.rows))) (hi : Pn K bc cs Γ ti (· = .d (iD x.i))) (hj : Pn K bc cs Γ tj (· = .d (iD x.j))) :
    Pn K bc cs Γ (tMeth (He.ga K "Company") "tie_at" (spTie K) [] E te (tCons ti (tCons tj tNil))) (· = .d (iD (tie x.co.β x.co.rows x.i x.j))) :=
  pn_meth (T := (· = .d (iD (tie x.co.β x.co.rows x.i x.j)))) x h (by kernel_rfl) (qa_cons hi (qa_cons hj qa_nil)) rfl (fun t m => by simp at m; rcases m with rfl | rfl <;> trivial) fun r e => by rw [e]; exact ⟨trivial, rfl⟩
def gridRow (m : Nat) (B : T3 → Bool) (p : Nat) : PyData := .tuple ((List.range m).map fun q => .tuple ((List.range m).map fun r => .bool (B (p, q, r))))
def gridCol (m : Nat) (B : T3 → Bool) (p q : Nat) : PyData := .tuple ((List.range m).map fun r => .bool (B (p, q, r)))
theorem range_map_at {α : Type} {m i : Nat} {f : Nat → α} (h : i < m) : ((List.range m).map f)[i]? = some (f i) := by
  rw [List.getElem?_map, List.getElem?_range h]
  rfl
theorem tr_fault (T : Tx K mg) (x : FauI) : Trp K [] E (t_Book_company_fault K (spCb K) (spLen K) (spTie K)) 5 (fauTs K) fauR x := by
  obtain ⟨c, B, bl⟩ := x
  have hfew := c.few
  refine tr_seq (tr_drop (T := (· = .d .none)) (pn_meth (T := (· = .d .none)) (c.β, B) (ps (s := bookS K c.β B) rfl) (by kernel_rfl) (qa_cons (pn_ties T (pn_coTies T (ps rfl))) qa_nil) rfl (fun t m => by simp at m; rw [m]; trivial) fun r e => by rw [e]; exact ⟨trivial, rfl⟩) fun _ _ => ?_)
  refine tr_seq (tr_set (t := .d (iD c.g.length)) (pn_len c (ps rfl)) ?_)
  refine tr_seq (tr_for (si_rng1 (pd rfl) (by omega)) (fun _ i b cc γ => b = [] ∧ cc = [] ∧ Wk γ [.sem (bookS K c.β B), .sem (coS K c.β c.g c.rows), .d (iD c.g.length), .any, .any, .any, .any] ∧ ∀ i', i' < i → ∀ j k, i' < j → j < k → k < c.g.length → B (tie c.β c.rows i' j, tie c.β c.rows j k, tie c.β c.rows i' k) = false)
    (fun _ _ => ⟨rfl, rfl, Wk.refl _, fun i' h => absurd h (by omega)⟩) ?_ ?_)
  · rintro ds i d b cc γ rfl hd ⟨rfl, rfl, hw, hf⟩
    obtain ⟨hi, rfl⟩ := rgD_get hd
    rw [Nat.zero_add]
    refine ⟨_, _, tg_name, tr_wk (wk_set hw) ?_⟩
    refine tr_for (si_rng2 (a := i + 1) (b := c.g.length) (pd_op (pd rfl) pc_int ro_int) (pd rfl) (by omega) (by omega)) (fun _ j b cc γ => b = [] ∧ cc = [] ∧ Wk γ [.sem (bookS K c.β B), .sem (coS K c.β c.g c.rows), .d (iD c.g.length), .d (iD i), .any, .any, .any] ∧ ∀ j', i < j' → j' < i + 1 + j → ∀ k, j' < k → k < c.g.length → B (tie c.β c.rows i j', tie c.β c.rows j' k, tie c.β c.rows i k) = false)
      (fun _ _ => ⟨rfl, rfl, Wk.refl _, fun j' h h' => absurd h (by omega)⟩) ?_ ?_
    · rintro ds j d b cc γ rfl hd ⟨rfl, rfl, hw, hg⟩
      obtain ⟨hj, rfl⟩ := rgD_get hd
      refine ⟨_, _, tg_name, tr_wk (wk_set hw) ?_⟩
      have hj2 : i + 1 + j < c.g.length := by omega
      have t1 := tie_lt (⟨c, i, i + 1 + j, by omega, hj2, bl⟩ : TieI)
      refine tr_seq (tr_set (t := .d (gridRow c.β.length B (tie c.β c.rows i (i + 1 + j)))) (pd_op (pn_bGrid T (ps rfl)) (pn_tie (⟨c, i, i + 1 + j, by omega, hj2, bl⟩ : TieI) (ps rfl) (pd rfl) (pd rfl)) (ro_ixT (atI_nat' (range_map_at t1)))) ?_)
      refine tr_for (si_rng2 (a := i + 1 + j + 1) (b := c.g.length) (pd_op (pd rfl) pc_int ro_int) (pd rfl) (by omega) (by omega)) (fun _ k b cc γ => b = [] ∧ cc = [] ∧ Wk γ [.sem (bookS K c.β B), .sem (coS K c.β c.g c.rows), .d (iD c.g.length), .d (iD i), .d (iD (i + 1 + j)), .d (gridRow c.β.length B (tie c.β c.rows i (i + 1 + j))), .any] ∧ ∀ k', i + 1 + j < k' → k' < i + 1 + j + 1 + k → B (tie c.β c.rows i (i + 1 + j), tie c.β c.rows (i + 1 + j) k', tie c.β c.rows i k') = false)
        (fun _ _ => ⟨rfl, rfl, Wk.refl _, fun k' h h' => absurd h (by omega)⟩) ?_ ?_
      · rintro ds k d b cc γ rfl hd ⟨rfl, rfl, hw, hk⟩
        obtain ⟨hkn, rfl⟩ := rgD_get hd
        refine ⟨_, _, tg_name, tr_wk (wk_set hw) ?_⟩
        have hk2 : i + 1 + j + 1 + k < c.g.length := by omega
        have t2 := tie_lt (⟨c, i + 1 + j, i + 1 + j + 1 + k, by omega, hk2, bl⟩ : TieI)
        have t3 := tie_lt (⟨c, i, i + 1 + j + 1 + k, by omega, hk2, bl⟩ : TieI)
        refine tr_if (qt_B (pd_op (pd_op (pd rfl) (pn_tie (⟨c, i + 1 + j, i + 1 + j + 1 + k, by omega, hk2, bl⟩ : TieI) (ps rfl) (pd rfl) (pd rfl)) (ro_ixT (atI_nat' (range_map_at t2)))) (pn_tie (⟨c, i, i + 1 + j + 1 + k, by omega, hk2, bl⟩ : TieI) (ps rfl) (pd rfl) (pd rfl)) (ro_ixT (atI_nat' (range_map_at t3))))) (fun hb => ?_) (fun hb => tr_next ?_)
        · refine tr_ret (pn_tup (ds := [iD (bk c.g i), iD (bk c.g (i + 1 + j)), iD (bk c.g (i + 1 + j + 1 + k))]) (qa_cons (pd_op (pn_coGuests T (ps rfl)) (pd rfl) (ro_ixT (isD_atI (by omega)))) (qa_cons (pd_op (pn_coGuests T (ps rfl)) (pd rfl) (ro_ixT (isD_atI (by omega)))) (qa_cons (pd_op (pn_coGuests T (ps rfl)) (pd rfl) (ro_ixT (isD_atI (by omega)))) qa_nil))) (by show 3 ≤ 1000; decide)) fun t e => ?_
          rw [e]
          refine ⟨trivial, rfl, .inr ⟨_, rfl, fun hfr => ?_⟩⟩
          have := hfr i (i + 1 + j) (i + 1 + j + 1 + k) (by omega) (by omega) hk2
          exact Bool.noConfusion (show true = false from hb.symm.trans this)
        · refine ⟨rfl, rfl, ⟨.inr rfl, .inr rfl, .inr rfl, .inr rfl, .inr rfl, .inr rfl, .inl rfl, trivial⟩, fun k' h1 h2 => ?_⟩
          by_cases e : k' = i + 1 + j + 1 + k
          · rw [e]; exact hb
          · exact hk k' h1 (by omega)
      · rintro ds b cc γ rfl ⟨rfl, rfl, hw, hk⟩
        rw [rgD_len] at hk
        refine ⟨rfl, rfl, wk_trans hw ⟨.inr rfl, .inr rfl, .inr rfl, .inr rfl, .inl rfl, .inl rfl, .inl rfl, trivial⟩, fun j' h1 h2 k h3 h4 => ?_⟩
        by_cases e : j' = i + 1 + j
        · rw [e] at h3 ⊢
          exact hk k h3 (by omega)
        · exact hg j' h1 (by omega) k h3 h4
    · rintro ds b cc γ rfl ⟨rfl, rfl, hw, hg⟩
      rw [rgD_len] at hg
      refine ⟨rfl, rfl, wk_trans hw ⟨.inr rfl, .inr rfl, .inr rfl, .inl rfl, .inl rfl, .inl rfl, .inl rfl, trivial⟩, fun i' h1 j k h2 h3 h4 => ?_⟩
      by_cases e : i' = i
      · rw [e] at h2 ⊢
        exact hg j h2 (by omega) k h3 h4
      · exact hf i' (by omega) j k h2 h3 h4
  · rintro ds b cc γ rfl ⟨rfl, rfl, hw, hf⟩
    rw [rgD_len] at hf
    exact tr_retD pc_non ⟨rfl, .inl ⟨rfl, fun i j k h1 h2 h3 => hf i (Nat.lt_trans h1 (Nat.lt_trans h2 h3)) j k h1 h2 h3⟩⟩
abbrev letsR : FauI → Rv → Prop := fun x r => ∃ v, r = .tv (.d (.bool v)) ∧ (v = true ↔ free x.co x.B)
abbrev spLets (K : PySem.W.Frag) : Sp := Pro K [] (fauTs K) letsR
theorem tr_lets (T : Tx K mg) (x : FauI) : Trp K [] E (t_Book_lets K (spFau K)) 0 (fauTs K) letsR x := by
  refine tr_ret (T := fun t => ∃ v, t = .d (.bool v) ∧ (v = true ↔ free x.co x.B)) ?_ fun t ⟨v, e, h⟩ => by rw [e]; exact ⟨trivial, rfl, v, rfl, h⟩
  refine pn_op (T1 := fun t => ∃ d, t = .d d ∧ (isNoneD d = true ↔ free x.co x.B)) ?_ pc_non fun t u ⟨d, e, h⟩ e2 => ?_
  · refine pn_meth x (ps (s := bookS K x.co.β x.B) rfl) (by kernel_rfl) (qa_cons (ps rfl) qa_nil) rfl (fun t m => by simp at m; rw [m]; trivial) fun r hr => ?_
    rcases hr with ⟨rfl, h⟩ | ⟨ds, rfl, h⟩
    · exact ⟨trivial, _, rfl, ⟨fun _ => h, fun _ => rfl⟩⟩
    · exact ⟨trivial, _, rfl, ⟨fun e => Bool.noConfusion (show false = true from e), fun e => absurd e h⟩⟩
  · rw [e, e2]
    exact ro_is.mono fun t e => ⟨_, e, h⟩
end
end Z
set_option Elab.async false
set_option linter.all false
set_option maxRecDepth 100000
set_option maxHeartbeats 1000000
namespace Z
open PySem PySem.Spec PyProof.Rows L2
section
variable {P : Program} {w : World} {K : PySem.W.Frag} {bc cs : List Cell} {Γ : List Tv} {E : XK} {N : List Cell → List Cell → List Tv → Prop} {R : List Cell → Rv → Prop} {X : Xv → Prop} {mg : Str → Option Value}
/-! ### lists of threes -/
theorem tDs_mem {l : List T3} {d : PyData} (h : d ∈ l.map tD) : ∃ t, t ∈ l ∧ d = tD t := by
  obtain ⟨t, ht, rfl⟩ := List.mem_map.mp h
  exact ⟨t, ht, rfl⟩
theorem fl_ts (l : List T3) : Fl 2 (.list (l.map tD)) := fl_list fun d h => by
  obtain ⟨t, _, rfl⟩ := tDs_mem h
  exact fl_t t
theorem fl_tsT (l : List T3) : Fl 2 (.tuple (l.map tD)) := fl_tup fun d h => by
  obtain ⟨t, _, rfl⟩ := tDs_mem h
  exact fl_t t
theorem nb_ts (l : List T3) : nbAll (l.map tD) = true := nbAll_of fun d h => by
  obtain ⟨t, _, rfl⟩ := tDs_mem h
  exact nb_t t
theorem tDs_inj : ∀ {a b : List T3}, a.map tD = b.map tD → a = b
  | [], [], _ => rfl
  | [], _ :: _, h => by cases h
  | _ :: _, [], h => by cases h
  | x :: a, y :: b, h => by
    rw [List.map_cons, List.map_cons] at h
    injection h with h1 h2
    rw [tD_inj h1, tDs_inj h2]
theorem eqv_tsT {a b : List T3} : PyData.eqv (.tuple (a.map tD)) (.tuple (b.map tD)) = decide (a = b) := by
  have na : nb (.tuple (a.map tD)) = true := by simpa [nb] using nb_ts a
  have nb' : nb (.tuple (b.map tD)) = true := by simpa [nb] using nb_ts b
  cases q : decide (a = b) with
  | true => rw [of_decide_eq_true q]; exact eqv_self nb'
  | false =>
    refine eqv_ne na nb' fun e => ?_
    injection e with e
    exact (of_decide_eq_false q) (tDs_inj e)
theorem eqv_ts {a b : List T3} : PyData.eqv (.list (a.map tD)) (.list (b.map tD)) = decide (a = b) := by
  have na : nb (.list (a.map tD)) = true := by simpa [nb] using nb_ts a
  have nb' : nb (.list (b.map tD)) = true := by simpa [nb] using nb_ts b
  cases q : decide (a = b) with
  | true => rw [of_decide_eq_true q]; exact eqv_self nb'
  | false =>
    refine eqv_ne na nb' fun e => ?_
    injection e with e
    exact (of_decide_eq_false q) (tDs_inj e)
theorem eqv_t {a b : T3} : PyData.eqv (tD a) (tD b) = decide (a = b) := by
  cases q : decide (a = b) with
  | true => rw [of_decide_eq_true q]; exact eqv_self (nb_t b)
  | false => exact eqv_ne (nb_t a) (nb_t b) fun e => (of_decide_eq_false q) (tD_inj e)
/-! ### Book.__eq__ -/
abbrev BkP : Type := List Nat × (T3 → Bool)
abbrev beqTs (K : PySem.W.Frag) : BkP × BkP → List Tv := fun x => [.sem (bookS K x.1.1 x.1.2), .sem (bookS K x.2.1 x.2.2)]
abbrev beqV : BkP × BkP → Bool := fun x => decide (x.1.1 = x.2.1) && decide (barL x.1.1.length x.1.2 = barL x.2.1.length x.2.2)
abbrev beqR : BkP × BkP → Rv → Prop := fun x r => r = .tv (.d (.bool (beqV x)))
abbrev spBeq (K : PySem.W.Frag) : Sp := Pro K [] (beqTs K) beqR
/-- a == b of own objects -/
theorem pn_ownEq {ι : Type} {C : Addr} {ns ms : List (Str × Tv)} {ts : ι → List Tv} {R : ι → Rv → Prop} {ta tb : TE} {b : Bool} (i : ι) (ha : Pn K bc cs Γ ta (· = .sem (insS K C ns))) (hb : Pn K bc cs Γ tb (· = .sem (insS K C ms)))
    (e : ts i = [.sem (insS K C ns), .sem (insS K C ms)]) (hr : ∀ r, R i r → r = .tv (.d (.bool b))) : Pn K bc cs Γ (tOp (rOwnEq C (Pro K [] ts R)) ta tb) (· = .d (.bool b)) :=
  pd_op ha hb fun M bs ls σ H x y S hx hy Q q => by
    have hx0 := hx
    have hy0 := hy
    obtain ⟨a, o, rfl, ha, dx, fs, rfl, hf⟩ := hx
    obtain ⟨a', o', rfl, ha', dy, gs, rfl, hg⟩ := hy
    refine ⟨a, dx, fs, a', dy, gs, rfl, rfl, hid_ex _ _ ha, hid_ex _ _ ha', i, _, [], S.callee0 (ts := ts i) (fun t m => by rw [e] at m; simp at m; rcases m with rfl | rfl <;> trivial) (by rw [e]; exact ⟨hx0, hy0, trivial⟩), fun r v H2 h2 o2 cb k2 hv2 => ?_⟩
    rw [hr r h2] at hv2
    exact q _ v H2 rfl (S.ex k2.ex0) (Kp.of_ex k2.ex0) hv2
theorem tr_beq (T : Tx K mg) (x : BkP × BkP) : Trp K [] E (t_Book_eq K (spTeq K)) 0 (beqTs K) beqR x := by
  refine tr_retD (x := .bool (true && beqV x)) (pn_andV (pn_isiO (ps rfl) T.c_Book T.isB) fun _ => pn_andV (pn_ownEq (x.1.1, x.2.1) (pn_bTies T (ps rfl)) (pn_bTies T (ps rfl)) rfl fun r e => e) fun _ => ?_) ⟨rfl, rfl⟩
  rw [← eqv_tsT]
  exact pd_op (pn_bBar T (ps rfl)) (pn_bBar T (ps rfl)) (ro_eq ((fl_tsT _).sh (by decide)) ((fl_tsT _).sh (by decide)))
/-! ### is_three, _six -/
structure ThI where
  β : List Nat
  t : T3
  bl : Bks β
  ok : In3 β.length t
abbrev thTs (K : PySem.W.Frag) : ThI → List Tv := fun x => [.sem (tiesS K x.β), .d (tD x.t)]
abbrev thR : ThI → Rv → Prop := fun _ r => r = .tv (.d (.bool true))
abbrev spTh (K : PySem.W.Frag) : Sp := Pro K [] (thTs K) thR
theorem tr_is_three (T : Tx K mg) (x : ThI) : Trp K [] E (t_is_three K (spWhole K)) 1 (thTs K) thR x := by
  obtain ⟨β, ⟨p, q, r⟩, bl, h1, h2, h3⟩ := x
  refine tr_skip (qt_or (qt_not (qt_B (pn_isi2 (pd rfl)))) fun _ => qt_of (pd_op (pn_lenT (pd rfl)) pc_int (ro_ne sh_int sh_int))) (by rfl) ?_
  refine tr_chk (si_seqT (pd rfl)) rfl (fun j d hd => ?_) (tr_retD pc_bl ⟨rfl, rfl⟩)
  have : ∃ n, d = iD n ∧ n < β.length := by
    have hm := List.mem_of_getElem? hd
    simp at hm
    rcases hm with e | e | e
    · exact ⟨p, e, h1⟩
    · exact ⟨q, e, h2⟩
    · exact ⟨r, e, h3⟩
  obtain ⟨n, rfl, hn⟩ := this
  exact tr_skip1 (qt_not (qt_B (qt_in T (pd rfl) (ps rfl) hn))) rfl ⟨rfl, rfl, wk_back rfl⟩
abbrev sixR : ThI → Rv → Prop := fun x r => r = .fr ((readings (bk x.β) x.t).map tD)
abbrev spSix (K : PySem.W.Frag) : Sp := Pro K [] (thTs K) sixR
theorem pn_t3 {ta tb tc : TE} {a b c : Nat} (ha : Pn K bc cs Γ ta (· = .d (iD a))) (hb : Pn K bc cs Γ tb (· = .d (iD b))) (hc : Pn K bc cs Γ tc (· = .d (iD c))) : Pn K bc cs Γ (tTup (tCons ta (tCons tb (tCons tc tNil)))) (· = .d (tD (a, b, c))) :=
  pn_tup (ds := [iD a, iD b, iD c]) (qa_cons ha (qa_cons hb (qa_cons hc qa_nil))) (by show 3 ≤ 1000; decide)
theorem tr_six (T : Tx K mg) (x : ThI) : Trp K [] E (t_six K) 4 (thTs K) sixR x := by
  obtain ⟨β, ⟨p, q, r⟩, bl, h1, h2, h3⟩ := x
  refine tr_seq (tr_asgG (pd rfl) (tg_3 (a := iD p) (b := iD q) (c := iD r)) ?_)
  refine tr_seq (tr_set (pn_ties T (ps (s := tiesS K β) rfl)) ?_)
  refine tr_retF (T := (· = (readings (bk β) (p, q, r)).map tD)) ?_ fun ds e => ⟨rfl, by rw [e]⟩
  have ix : ∀ {i : Nat} {n : Nat}, n < β.length → (∀ {Γ' : List Tv}, Γ' = [Tv.sem (tiesS K β), .d (tD (p, q, r)), .d (iD p), .d (iD q), .d (iD r), .d (.tuple (isD β))] → Γ'[i]? = some (.d (iD n)) → Pn K [] [] Γ' (tOp (rIxLT K) (tVar 5) (tVar i)) (· = .d (iD (bk β n)))) := by
    intro i n hn Γ' e hi
    exact pd_op (pd (by rw [e]; rfl)) (pd hi) (ro_ixT (isD_atI hn))
  refine pf_lstD (qa_cons (pn_t3 (pd rfl) (pd rfl) (pd rfl)) (qa_cons (pn_t3 (pd rfl) (ix h2 rfl rfl) (pd rfl)) (qa_cons (pn_t3 (ix h1 rfl rfl) (pd rfl) (pd rfl)) (qa_cons (pn_t3 (pd rfl) (ix h3 rfl rfl) (ix h1 rfl rfl)) (qa_cons (pn_t3 (ix h3 rfl rfl) (pd rfl) (ix h2 rfl rfl)) (qa_cons (pn_t3 (ix h2 rfl rfl) (ix h1 rfl rfl) (ix h3 rfl rfl)) qa_nil)))))) (by show 6 ≤ 1000; decide)
/-! ### sorted(set(threes)) -/
def inz (t : T3) : List Int := [t.1, t.2.1, t.2.2]
def t3 (l : List Int) : T3 := ((l.getD 0 0).toNat, (l.getD 1 0).toNat, (l.getD 2 0).toNat)
theorem t3_inz (t : T3) : t3 (inz t) = t := by simp [t3, inz]
theorem keys_of {H : Hp} : ∀ {vs : List V} {l : List T3}, DqAll K H vs (l.map tD) → ∃ ks : List (Addr × List Int), vs = ks.map (fun p => V.ref p.1) ∧ ks.map (·.2) = l.map inz ∧ ∀ p, p ∈ ks → H p.1 = some (.tup (p.2.map V.int)) ∧ ∃ t, t ∈ l ∧ p.2 = inz t
  | _, [], h => by
    cases h
    exact ⟨[], rfl, rfl, fun p m => by cases m⟩
  | _, t :: l, h => by
    cases h with
    | cons h1 h2 =>
      obtain ⟨ks, e1, e2, e3⟩ := keys_of h2
      cases h1 with
      | tup ha hb =>
        rename_i a xs
        cases hb with
        | cons i1 hb => cases hb with
          | cons i2 hb => cases hb with
            | cons i3 hb =>
              cases hb
              cases i1
              cases i2
              cases i3
              refine ⟨(a, inz t) :: ks, by rw [e1]; rfl, by rw [List.map_cons, e2]; rfl, fun p m => ?_⟩
              rcases List.mem_cons.mp m with e | m
              · rw [e]
                exact ⟨ha, t, List.mem_cons_self, rfl⟩
              · obtain ⟨a1, u, hu, a2⟩ := e3 p m
                exact ⟨a1, u, List.mem_cons_of_mem _ hu, a2⟩
theorem dq_keys {H : Hp} : ∀ {ks : List (Addr × List Int)}, (∀ p, p ∈ ks → H p.1 = some (.tup (p.2.map V.int)) ∧ ∃ t, p.2 = inz t) → DqAll K H (ks.map fun p => V.ref p.1) ((ks.map fun p => t3 p.2).map tD)
  | [], _ => .nil
  | p :: ks, h => by
    obtain ⟨h1, t, h2⟩ := h p List.mem_cons_self
    refine .cons ?_ (dq_keys fun q m => h q (List.mem_cons_of_mem _ m))
    show Dq K H (.ref p.1) (tD (t3 p.2))
    rw [h2, t3_inz]
    rw [h2] at h1
    exact .tup h1 (.cons (.int _) (.cons (.int _) (.cons (.int _) .nil)))
theorem pn_sortSet {te : TE} {l : List T3} (h : Pf K bc cs Γ te (· = l.map tD)) (hn : l.length < 64) (hb : ∀ t, t ∈ l → In3 4 t) :
    Pn K bc cs Γ (tThen (tCB (rSortedT K P w) (tCons (tCB (rSetOfT K P w) (tCons te tNil)) tNil)) (kTup K)) (fun u => ∃ l' : List T3, (∀ t, t ∈ l' ↔ t ∈ l) ∧ u = .d (.tuple (l'.map tD))) := fun M bs ls σ H S Q q => by
  refine h M bs ls σ H S _ fun ds vs p H1 e np S1 k1 hp ha => ?_
  subst e
  obtain ⟨ks, e1, e2, e3⟩ := keys_of ha
  have hlen : ks.length = l.length := by
    have := congrArg List.length e2
    simpa using this
  refine ⟨p, ks, rfl, by rw [← e1]; exact SqL.of hp, fun r m => SqT.of (hid_ex _ _ (e3 r m).1), by omega, fun a L na sub all => ?_⟩
  have x1 := ex_upd (H := H1) (o := SetTO P w a L) na
  have kH : ∀ r, r ∈ L → H1 r.1 = some (.tup (r.2.map V.int)) := fun r m => hid_ex _ _ (e3 r (sub r m)).1
  refine ⟨a, L, 3, 4, rfl, upd_same, fun r m => SqT.of (x1 _ _ (kH r m)), by decide, fun r m => ?_, fun L' p' pm nd few pw np' => ?_⟩
  · obtain ⟨_, t, ht, e⟩ := e3 r (sub r m)
    obtain ⟨b1, b2, b3⟩ := hb t ht
    rw [e]
    refine ⟨rfl, ?_⟩
    intro z hz
    simp [inz] at hz
    rcases hz with rfl | rfl | rfl <;> omega
  have x2 := ex_upd (o := .lst (L'.map fun q => V.ref q.1)) np'
  refine .inl ⟨p', _, rfl, SqL.of upd_same, fun u nu => ?_⟩
  have x3 := ex_upd (o := .tup (L'.map fun q => V.ref q.1)) nu
  have X := Ex.trans x1 (Ex.trans x2 x3)
  have S2 := (S1.ex X).show
  refine q _ _ _ ⟨L'.map fun r => t3 r.2, fun t => ?_, rfl⟩ S2 (k1.trans (Kp.of_ex X)) ?_
  · constructor
    · intro ht
      obtain ⟨r, hr, rfl⟩ := List.mem_map.mp ht
      obtain ⟨_, t, ht, e⟩ := e3 r (sub r (pm.mem_iff.mp hr))
      rw [e, t3_inz]
      exact ht
    · intro ht
      have : inz t ∈ ks.map (·.2) := by rw [e2]; exact List.mem_map.mpr ⟨t, ht, rfl⟩
      obtain ⟨r, hr, er⟩ := List.mem_map.mp this
      obtain ⟨r2, hr2, e4⟩ := List.mem_map.mp (all r hr)
      refine List.mem_map.mpr ⟨r2, pm.mem_iff.mpr hr2, ?_⟩
      rw [e4, er, t3_inz]
  · have nW : ∀ b, b ∈ ls ++ (bs ++ M) → H1 b ≠ none := fun b m => (S1.show.alive b m).1
    have nu' : u ∉ ls ++ (bs ++ M) := fun m => nW u m (by
      cases z : H1 u with
      | none => rfl
      | some o =>
        have := Ex.trans x1 x2 u o z
        rw [nu] at this
        cases this)
    refine .tup (by rw [hid_of nu']; exact upd_same) ?_
    refine dq_keys fun r m => ?_
    obtain ⟨h1, t, _, e⟩ := e3 r (sub r (pm.mem_iff.mp m))
    refine ⟨?_, t, e⟩
    obtain ⟨n1, h2⟩ := hid_at h1
    rw [hid_of fun z => n1 (mem3 z)]
    exact X _ _ h2
abbrev rdR : ThI → Rv → Prop := fun x r => ∃ l : List T3, (∀ t, t ∈ l ↔ t ∈ readings (bk x.β) x.t) ∧ r = .tv (.d (.tuple (l.map tD)))
abbrev spRd (K : PySem.W.Frag) : Sp := Pro K [] (thTs K) rdR
theorem rd_in {β : List Nat} {t u : T3} (bl : Bks β) (h : In3 β.length t) (m : u ∈ readings (bk β) t) : In3 β.length u := by
  obtain ⟨p, q, r⟩ := t
  obtain ⟨h1, h2, h3⟩ := h
  have a1 := bl.lt p h1
  have a2 := bl.lt q h2
  have a3 := bl.lt r h3
  simp [readings] at m
  rcases m with rfl | rfl | rfl | rfl | rfl | rfl <;> exact ⟨by assumption, by assumption, by assumption⟩
theorem pn_th (x : ThI) {ta tb : TE} (ha : Pn K bc cs Γ ta (· = .sem (tiesS K x.β))) (hb : Pn K bc cs Γ tb (· = .d (tD x.t))) : Pn K bc cs Γ (tCall (spTh K) [] E (tCons ta (tCons tb tNil))) (· = .d (.bool true)) :=
  pn_call (T := (· = .d (.bool true))) x (qa_cons ha (qa_cons hb qa_nil)) (fun t m => by simp at m; rcases m with rfl | rfl <;> trivial) fun r e => by rw [e]; exact ⟨trivial, rfl⟩
theorem tr_readings_of (T : Tx K mg) (x : ThI) : Trp K [] E (t_readings_of P w K (spTh K) (spSix K)) 0 (thTs K) rdR x := by
  refine tr_skip (qt_not (qt_B (pn_th x (ps rfl) (pd rfl)))) rfl ?_
  refine tr_ret (pn_sortSet (l := readings (bk x.β) x.t) (pf_call x (qa_cons (ps rfl) (qa_cons (pd rfl) qa_nil)) (fun t m => by simp at m; rcases m with rfl | rfl <;> trivial) fun r e => ⟨_, e, rfl⟩) (by show 6 < 64; decide) fun t ht => ?_) fun t ⟨l, hl, e⟩ => by rw [e]; exact ⟨trivial, rfl, l, hl, rfl⟩
  have hi := x.bl.hi
  obtain ⟨a, b, c⟩ := rd_in x.bl x.ok ht
  exact ⟨by omega, by omega, by omega⟩
end
end Z
set_option Elab.async false
set_option linter.all false
set_option maxRecDepth 100000
set_option maxHeartbeats 1000000
namespace Z
open PySem PySem.Spec PyProof.Rows L2
section
variable {P : Program} {w : World} {K : PySem.W.Frag} {bc cs : List Cell} {Γ : List Tv} {E : XK} {N : List Cell → List Cell → List Tv → Prop} {R : List Cell → Rv → Prop} {X : Xv → Prop} {mg : Str → Option Value}
/-! ### a dict with threes as keys -/
def kyT (t : T3) : List L2.Key := [.inl t.1, .inl t.2.1, .inl t.2.2]
theorem kyT_inj {t u : T3} (h : kyT t = kyT u) : t = u := by
  obtain ⟨a, b, c⟩ := t
  obtain ⟨d, e, f⟩ := u
  simp only [kyT, List.cons.injEq, Sum.inl.injEq, and_true] at h
  obtain ⟨h1, h2, h3⟩ := h
  simp only [Prod.mk.injEq]
  omega
def dtC (K : PySem.W.Frag) (l : List T3) : Cell := ⟨fun H o => ∃ kvs : List (List L2.Key × V), o = .dT kvs ∧ kvs.map (·.1) = l.map kyT ∧ ∀ kv, kv ∈ kvs → ∃ t, Dq K H kv.2 (tD t),
  fun e ⟨kvs, h1, h2, h3⟩ => ⟨kvs, h1, h2, fun kv m => (h3 kv m).imp fun t h => Dq.ex e _ _ h⟩, fun ⟨kvs, h, _⟩ => by rw [h]; exact lv_dT⟩
def put3 (l : List T3) (t : T3) : List T3 := if t ∈ l then l else l ++ [t]
theorem val_keys {κ : Type} [DecidableEq κ] {kvs : List (κ × V)} {k : κ} : (valV kvs k).isSome = decide (k ∈ kvs.map (·.1)) := by
  rw [← valV_any]
  induction kvs with
  | nil => rfl
  | cons p r ih =>
    rw [List.any_cons, ih]
    by_cases e : p.1 = k
    · simp [e]
    · have : ¬ k = p.1 := fun z => e z.symm
      simp [e, this]
theorem keys_put {κ : Type} [DecidableEq κ] {kvs : List (κ × V)} {k : κ} {v : V} : (putK kvs k v).map (·.1) = if k ∈ kvs.map (·.1) then kvs.map (·.1) else kvs.map (·.1) ++ [k] := by
  unfold putK
  rw [valV_any, val_keys]
  by_cases h : k ∈ kvs.map (·.1)
  · rw [if_pos (decide_eq_true h), if_pos h, List.map_map]
    congr 1
    funext p
    simp only [Function.comp]
    split <;> rfl
  · rw [if_neg (by rw [decide_eq_false h]; exact Bool.false_ne_true), if_neg h]
    simp
theorem mem_kyT {l : List T3} {t : T3} : kyT t ∈ l.map kyT ↔ t ∈ l := by
  constructor
  · intro h
    obtain ⟨u, hu, e⟩ := List.mem_map.mp h
    rw [← kyT_inj e]
    exact hu
  · intro h
    exact List.mem_map.mpr ⟨t, h, rfl⟩
theorem put_mem {κ : Type} [DecidableEq κ] {kvs : List (κ × V)} {k : κ} {v : V} {kv : κ × V} (h : kv ∈ putK kvs k v) : kv ∈ kvs ∨ kv.2 = v := by
  unfold putK at h
  by_cases q : (kvs.any fun kv => decide (kv.1 = k)) = true
  · rw [if_pos q] at h
    obtain ⟨p, hp, e⟩ := List.mem_map.mp h
    by_cases e2 : p.1 = k
    · rw [if_pos e2] at e
      exact .inr (by rw [← e])
    · rw [if_neg e2] at e
      exact .inl (by rw [← e]; exact hp)
  · rw [if_neg q] at h
    rcases List.mem_append.mp h with m | m
    · exact .inl m
    · rw [List.mem_singleton.mp m]
      exact .inr rfl
theorem dq_t {H : Hp} {v : V} {t : T3} (h : Dq K H v (tD t)) : ∃ b, v = .ref b ∧ H b = some (.tup ((kyT t).map kV)) := by
  cases h with
  | tup ha hb =>
    cases hb with
    | cons i1 hb => cases hb with
      | cons i2 hb => cases hb with
        | cons i3 hb =>
          cases hb
          cases i1
          cases i2
          cases i3
          exact ⟨_, rfl, ha⟩
theorem tr_newDT {i : Nat} (k : N bc (cs ++ [dtC K []]) (Γ.set i (.cel cs.length))) : Tr K bc cs Γ E (tAsg tDNewT (gName i)) N R X := fun M bs ls σ H S D q r x p n => by
  have S1 := S.hide (o := .dT []) n lv_dT
  exact q bc _ _ _ _ _ k (S1.newCell (c := dtC K []) upd_same ⟨[], rfl, rfl, fun kv m => by cases m⟩ (S.new n).2.2) (Kp.of_ex (ex_upd n)) fun a ha => by
    rcases List.mem_append.mp ha with z | z
    · exact .inl z
    · exact .inr (by rw [List.mem_singleton.mp z]; exact n)
theorem dt_get {M bs ls : List Addr} {σ : L2.St} {H : Hp} {k : Nat} {x y : V} {l : List T3} {t : T3} (S : St K bc cs Γ M bs ls σ H) (hk : cs[k]? = some (dtC K l)) (hx : holds K bs ls (hid (ls ++ (bs ++ M)) H) x (.cel k)) (hy : Dq K (hid (ls ++ (bs ++ M)) H) y (tD t)) :
    ∃ a kvs, x = .ref a ∧ ls[k]? = some a ∧ H a = some (.dT kvs) ∧ kvs.map (·.1) = l.map kyT ∧ (∀ kv, kv ∈ kvs → ∃ t, Dq K (hid (ls ++ (bs ++ M)) H) kv.2 (tD t)) ∧ DGet H a y (valV kvs (kyT t)) ∧ ∃ b, y = .ref b ∧ H b = some (.tup ((kyT t).map kV)) := by
  obtain ⟨a, o, rfl, ea, h1, kvs, rfl, h2, h3⟩ := S.cellR hx hk
  obtain ⟨b, rfl, hb⟩ := dq_t hy
  exact ⟨a, kvs, rfl, ea, h1, h2, h3, DGet.t h1 (hid_ex _ _ hb), b, rfl, hid_ex _ _ hb⟩
theorem pn_dtIn {i k : Nat} {ty : TE} {l : List T3} {t : T3} (hi : Γ[i]? = some (.cel k)) (hk : cs[k]? = some (dtC K l)) (h : Pn K bc cs Γ ty (· = .d (tD t))) : Pn K bc cs Γ (tDIn ty (tVar i)) (· = .d (.bool (decide (t ∈ l)))) := fun M bs ls σ H S Q q =>
  h M bs ls σ H S _ fun u y H1 hu S1 k1 hy => by
    subst hu
    refine pc (bc := bc) (cs := cs) hi M bs ls σ H1 S1 _ fun u x H2 hu S2 k2 hx => ?_
    subst hu
    obtain ⟨a, kvs, rfl, ea, h1, h2, h3, hg, _⟩ := dt_get S2 hk hx (Dq.ex k2.ex _ _ hy)
    refine ⟨a, _, rfl, hg, ?_⟩
    have e : (valV kvs (kyT t)).isSome = decide (t ∈ l) := by
      rw [val_keys, h2]
      exact decide_eq_decide.mpr mem_kyT
    rw [e]
    exact q _ _ H2 rfl S2 (k1.trans k2) (.bl _)
theorem pn_dtNotIn {i k : Nat} {ty : TE} {l : List T3} {t : T3} (hi : Γ[i]? = some (.cel k)) (hk : cs[k]? = some (dtC K l)) (h : Pn K bc cs Γ ty (· = .d (tD t))) : Pn K bc cs Γ (tDNotIn ty (tVar i)) (· = .d (.bool (!decide (t ∈ l)))) := fun M bs ls σ H S Q q =>
  h M bs ls σ H S _ fun u y H1 hu S1 k1 hy => by
    subst hu
    refine pc (bc := bc) (cs := cs) hi M bs ls σ H1 S1 _ fun u x H2 hu S2 k2 hx => ?_
    subst hu
    obtain ⟨a, kvs, rfl, ea, h1, h2, h3, hg, _⟩ := dt_get S2 hk hx (Dq.ex k2.ex _ _ hy)
    refine ⟨a, _, rfl, hg, ?_⟩
    have e : (valV kvs (kyT t)).isSome = decide (t ∈ l) := by
      rw [val_keys, h2]
      exact decide_eq_decide.mpr mem_kyT
    rw [e]
    exact q _ _ H2 rfl S2 (k1.trans k2) (.bl _)
theorem pn_dtGet {i k : Nat} {ty : TE} {l : List T3} {t : T3} (hi : Γ[i]? = some (.cel k)) (hk : cs[k]? = some (dtC K l)) (h : Pn K bc cs Γ ty (· = .d (tD t))) (ht : t ∈ l) : Pn K bc cs Γ (tDGet (tVar i) ty) (fun u => ∃ t', u = .d (tD t')) := fun M bs ls σ H S Q q =>
  pc (bc := bc) (cs := cs) hi M bs ls σ H S _ fun u x H1 hu S1 k1 hx => by
    subst hu
    refine h M bs ls σ H1 S1 _ fun u y H2 hu S2 k2 hy => ?_
    subst hu
    obtain ⟨a, kvs, rfl, ea, h1, h2, h3, hg, _⟩ := dt_get S2 hk (holds.ex (t := .cel k) k2.ex hx) hy
    have e : (valV kvs (kyT t)).isSome = true := by
      rw [val_keys, h2]
      simp only [decide_eq_true_eq]
      exact mem_kyT.mpr ht
    obtain ⟨v, hv⟩ := Option.isSome_iff_exists.mp e
    have hm : ∃ kv, kv ∈ kvs ∧ kv.2 = v := by
      unfold valV at hv
      obtain ⟨kv, hkv, e2⟩ := Option.map_eq_some_iff.mp hv
      exact ⟨kv, List.mem_of_find?_eq_some hkv, e2⟩
    obtain ⟨kv, hkv, e2⟩ := hm
    obtain ⟨t', hd⟩ := h3 kv hkv
    rw [e2] at hd
    exact ⟨a, v, rfl, by rw [← hv]; exact hg, q _ v H2 ⟨t', rfl⟩ S2 (k1.trans k2) hd⟩
theorem tr_dtPut {i k : Nat} {ty tv : TE} {l : List T3} {t u : T3} (hi : Γ[i]? = some (.cel k)) (hk : cs[k]? = some (dtC K l)) (hz : l.length ≤ 1000) (hv : Pn K bc cs Γ tv (· = .d (tD u))) (h : Pn K bc cs Γ ty (· = .d (tD t))) (n : N bc (cs.set k (dtC K (put3 l t))) Γ) :
    Tr K bc cs Γ E (sDPut (tVar i) ty tv) N R X := fun M bs ls σ H S D q r x =>
  hv M bs ls σ H S _ fun u1 v H1 hu S1 k1 hv1 => by
    subst hu
    refine pc (bc := bc) (cs := cs) hi M bs ls σ H1 S1 _ fun u1 x H2 hu S2 k2 hx => ?_
    subst hu
    refine h M bs ls σ H2 S2 _ fun u1 y H3 hu S3 k3 hy => ?_
    subst hu
    obtain ⟨a, kvs, rfl, ea, h1, h2, h3, _, b, rfl, hb⟩ := dt_get S3 hk (holds.ex (t := .cel k) k3.ex hx) hy
    have hlen : kvs.length = l.length := by
      have := congrArg List.length h2
      simpa using this
    refine ⟨a, _, rfl, DPut.t h1 hb (by rw [hlen]; exact small1000 hz), ?_⟩
    have hv3 := Dq.ex k3.ex _ _ (Dq.ex k2.ex _ _ hv1)
    have S4 := S3.setCell (c := dtC K (put3 l t)) (o := .dT (putK kvs (kyT t) v)) ea ⟨_, rfl, ?_, fun kv m => ?_⟩
    · exact q _ _ _ ls _ _ n S4 (((k1.trans k2).trans k3).trans (upd_kp (.inl (List.mem_of_getElem? ea)))) Fresh.refl
    · rw [keys_put, h2]
      unfold put3
      by_cases e : t ∈ l
      · rw [if_pos (mem_kyT.mpr e), if_pos e]
      · rw [if_neg fun z => e (mem_kyT.mp z), if_neg e]
        simp
    · rcases put_mem m with m | e
      · exact h3 kv m
      · rw [e]
        exact ⟨u, hv3⟩
theorem pf_dtList {i k : Nat} {l : List T3} (hi : Γ[i]? = some (.cel k)) (hk : cs[k]? = some (dtC K l)) : Pf K bc cs Γ (tCB rListT (tCons (tVar i) tNil)) (· = l.map tD) := fun M bs ls σ H S Q q =>
  pc (bc := bc) (cs := cs) hi M bs ls σ H S _ fun u x H1 hu S1 k1 hx => by
    subst hu
    obtain ⟨a, o, rfl, ea, h1, kvs, rfl, h2, h3⟩ := S1.cellR hx hk
    refine ⟨a, kvs, rfl, .inl h1, fun p ks np hks => ?_⟩
    have ex := ex_upd (H := H1) (o := .lst (ks.map V.ref)) np
    refine q _ _ p _ rfl (k1.free np) (S1.hide np) (k1.trans (Kp.of_ex ex)) upd_same ?_
    rw [hid_new np]
    have key : ∀ {kvs : List (List L2.Key × V)} {ks : List Addr} {l : List T3}, IsKeys H1 kvs ks → kvs.map (·.1) = l.map kyT → DqAll K (hid (ls ++ (bs ++ M)) H1) (ks.map V.ref) (l.map tD) := by
      intro kvs
      induction kvs with
      | nil =>
        intro ks l hk e
        cases hk
        cases l with
        | nil => exact .nil
        | cons _ _ => cases e
      | cons kv kvs ih =>
        intro ks l hk e
        cases hk with
        | cons hb hr =>
          rename_i b ks
          cases l with
          | nil => cases e
          | cons t l =>
            rw [List.map_cons, List.map_cons] at e
            injection e with e1 e2
            refine .cons ?_ (ih hr e2)
            have nW : b ∉ ls ++ (bs ++ M) := fun m => (S1.alive b m).2 _ hb
            rw [e1] at hb
            exact .tup (by rw [hid_of nW]; exact hb) (.cons (.int _) (.cons (.int _) (.cons (.int _) .nil)))
    exact key hks h2
/-! ### _check_threes -/
structure ThsI where
  β : List Nat
  l : List T3
  bl : Bks β
  ok : ∀ t, t ∈ l → In3 β.length t
abbrev ctTs (K : PySem.W.Frag) : ThsI → List Tv := fun x => [.sem (tiesS K x.β), .d (.list (x.l.map tD)), .d (.str "barred")]
abbrev ctR : ThsI → Rv → Prop := fun _ r => r = .tv (.d .none)
abbrev spCt (K : PySem.W.Frag) : Sp := Pro K [] (ctTs K) ctR
theorem ts_at {l : List T3} {i : Nat} {d : PyData} (h : (l.map tD)[i]? = some d) : ∃ t, l[i]? = some t ∧ d = tD t := by
  rw [List.getElem?_map] at h
  cases e : l[i]? with
  | none =>
    rw [e] at h
    cases h
  | some t =>
    rw [e] at h
    exact ⟨t, rfl, (Option.some.inj h).symm⟩
theorem tr_check_threes (T : Tx K mg) (x : ThsI) : Trp K [] E (t_check_threes K (spTh K)) 2 (ctTs K) ctR x := by
  obtain ⟨β, l, bl, ok⟩ := x
  refine tr_skip (qt_not (qt_B (pn_isiO (ps (s := tiesS K β) rfl) T.c_Ties T.isT))) rfl ?_
  refine tr_skip (qt_not (qt_B (pn_isi2 (pd rfl)))) rfl ?_
  refine tr_for (si_enumL (pd rfl)) (fun _ _ b c γ => b = [] ∧ c = [] ∧ Wk γ [.sem (tiesS K β), .d (.list (l.map tD)), .d (.str "barred"), .any, .any]) (fun _ _ => ⟨rfl, rfl, Wk.refl _⟩) ?_ ?_
  · rintro ds j d b c γ rfl hd ⟨rfl, rfl, hw⟩
    obtain ⟨y, hy, rfl⟩ := enD_get hd
    obtain ⟨t, ht, rfl⟩ := ts_at hy
    refine ⟨_, _, tg_2, tr_wk (wk_set (wk_set hw)) ?_⟩
    exact tr_skip1 (qt_not (qt_B (pn_th (⟨β, t, bl, ok t (List.mem_of_getElem? ht)⟩ : ThI) (ps rfl) (pd rfl)))) rfl ⟨rfl, rfl, ⟨.inr rfl, .inr rfl, .inr rfl, .inl rfl, .inl rfl, trivial⟩⟩
  · rintro ds b c γ rfl ⟨rfl, rfl, hw⟩
    exact ⟨rfl, rfl⟩
end
end Z
set_option Elab.async false
set_option linter.all false
set_option maxRecDepth 100000
set_option maxHeartbeats 1000000
namespace Z
open PySem PySem.Spec PyProof.Rows L2
open PySem.W (AllAlike Sortable dataLe minD AlikeAll)
section
variable {P : Program} {w : World} {K : PySem.W.Frag} {bc cs : List Cell} {Γ : List Tv} {E : XK} {N : List Cell → List Cell → List Tv → Prop} {R : List Cell → Rv → Prop} {X : Xv → Prop} {mg : Str → Option Value}
/-- sorted(list of data) -/
theorem pf_sortD {te : TE} {ds : List PyData} (h : Pf K bc cs Γ te (· = ds)) (al : AllAlike ds) (so : Sortable ds) (hz : ds.length ≤ 1000) (dep : ∀ d, d ∈ ds → d.depth ≤ 10) : Pf K bc cs Γ (tCB (rSortD K) (tCons te tNil)) (· = ds.mergeSort (dataLe false id)) := fun M bs ls σ H S Q q =>
  h M bs ls σ H S _ fun ds' vs p H1 e np S1 k1 hp ha => by
    subst e
    refine ⟨p, vs, ds', hid (ls ++ (bs ++ (p :: M))) H1, rfl, SqL.of hp, hid_ex, ha, al, so, hz, dep, fun u ws nu hw => ?_⟩
    have ex := ex_upd (H := H1) (o := .lst ws) nu
    have S0 := S1.show
    refine q _ ws u _ rfl (k1.free nu) (S0.hide nu) (k1.trans (Kp.of_ex ex)) upd_same ?_
    rw [hid_new nu]
    exact DqAll.ex (hid_more fun a m => mem3 m) _ _ hw
/-- min(list of data) -/
theorem pn_minD {te : TE} {d : PyData} {ds : List PyData} (h : Pf K bc cs Γ te (· = d :: ds)) (al : AlikeAll (d :: ds)) (dep : PyData.depthAll (d :: ds) ≤ 10) : Pn K bc cs Γ (tCB (rMinD K) (tCons te tNil)) (· = .d (minD d ds)) := fun M bs ls σ H S Q q =>
  h M bs ls σ H S _ fun ds' vs p H1 e np S1 k1 hp ha => by
    subst e
    refine ⟨p, vs, d, ds, hid (ls ++ (bs ++ (p :: M))) H1, rfl, SqL.of hp, hid_ex, ha, al, dep, fun v hv => ?_⟩
    exact q _ v H1 rfl S1.show k1 (Dq.ex (hid_more fun a m => mem3 m) _ _ hv)
theorem pn_anyS {te : TE} {T : Tv → Prop} (h : Pn K bc cs Γ te T) : Pn K bc cs Γ te (· = .sem anyS) := fun M bs ls σ H S Q q => h M bs ls σ H S Q fun t v H1 _ S1 k1 _ => q _ v H1 rfl S1 k1 trivial
/-! ### Book.__init__ -/
abbrev bkTs (K : PySem.W.Frag) : ThsI → List Tv := fun x => [.sem (tiesS K x.β), .d (.list (x.l.map tD))]
abbrev bkNs (K : PySem.W.Frag) : ThsI → List (Str × Tv) := fun x => bookN K x.β (clo (bk x.β) x.l)
abbrev spBk (K : PySem.W.Frag) : Sp := ProC K (cB K) (bkTs K) (bkNs K)
/-- the keys so far -/
structure Kc (m : Nat) (c : List T3) : Prop where
  nd : c.Nodup
  ok : ∀ t, t ∈ c → In3 m t
theorem Kc.few {m : Nat} {c : List T3} (h : Kc m c) (hm : m ≤ 4) : c.length ≤ 64 := Nat.le_trans (nd_le h.nd fun x hx => mem_allT.mpr (h.ok x hx)) (all_len hm)
theorem Kc.put {m : Nat} {c : List T3} {t : T3} (h : Kc m c) (ht : In3 m t) : Kc m (put3 c t) := by
  unfold put3
  by_cases e : t ∈ c
  · rw [if_pos e]; exact h
  · rw [if_neg e]
    refine ⟨?_, fun u hu => ?_⟩
    · rw [List.nodup_append]
      exact ⟨h.nd, by simp, fun a ha b hb => by rw [List.mem_singleton.mp hb]; exact fun z => e (by rw [← z]; exact ha)⟩
    · rcases List.mem_append.mp hu with q | q
      · exact h.ok u q
      · rw [List.mem_singleton.mp q]; exact ht
theorem mem_put3 {c : List T3} {t u : T3} : u ∈ put3 c t ↔ u ∈ c ∨ u = t := by
  unfold put3
  by_cases e : t ∈ c
  · rw [if_pos e]
    exact ⟨.inl, fun h => h.elim id fun z => by rw [z]; exact e⟩
  · rw [if_neg e]
    simp
theorem take_succ {α : Type} {l : List α} {j : Nat} {x : α} (h : l[j]? = some x) : l.take (j + 1) = l.take j ++ [x] := by
  rw [List.take_succ_eq_append_getElem (List.getElem?_eq_some_iff.mp h).1, (List.getElem?_eq_some_iff.mp h).2]
theorem tr_Book_init (T : Tx K mg) (x : ThsI) : Tr K [insC K (cB K) []] [] ((.bas 0 :: bkTs K x) ++ List.replicate 7 .any) E (t_Book_init K (spCt K) (spRd K)) (fun b _ _ => b = [insC K (cB K) (bkNs K x)]) (fun b r => False) (fun _ => False) := by
  obtain ⟨β, l, bl, ok⟩ := x
  have hm := bl.hi
  refine tr_seq (tr_drop (T := (· = .d .none)) (pn_call (⟨β, l, bl, ok⟩ : ThsI) (qa_cons (ps rfl) (qa_cons (pd rfl) (qa_cons pc_str qa_nil))) (fun t m => by simp at m; rcases m with rfl | rfl | rfl <;> trivial) fun r e => by rw [e]; exact ⟨trivial, rfl⟩) fun _ _ => ?_)
  refine tr_seq (tr_fld (t := .sem (tiesS K β)) rfl rfl (ps rfl) trivial T.c_Book T.n_Book_ties rfl (by decide) ?_)
  refine tr_seq (tr_newDT ?_)
  refine tr_seq (tr_for (si_seqL (pd rfl)) (fun _ i b c γ => b = [insC K (cB K) [("ties", .sem (tiesS K β))]] ∧ Wk γ [.bas 0, .sem (tiesS K β), .d (.list (l.map tD)), .cel 0, .any, .any, .any, .any, .any, .any] ∧ ∃ k, c = [dtC K k] ∧ Kc β.length k ∧ ∀ t, t ∈ k ↔ clo (bk β) (l.take i) t = true)
    (fun _ _ => ⟨rfl, Wk.refl _, [], rfl, ⟨List.nodup_nil, fun t m => by cases m⟩, fun t => by simp [clo]⟩) ?_ ?_)
  · rintro ds i d b c γ rfl hd ⟨rfl, hw, k, rfl, hk, hc⟩
    obtain ⟨t, ht, rfl⟩ := ts_at hd
    have htl := List.mem_of_getElem? ht
    refine ⟨_, _, tg_name, tr_wk (wk_set hw) ?_⟩
    refine tr_if (qt_B (pn_dtNotIn rfl rfl (pn_tupT (pd rfl)))) (fun hn => ?_) fun hn => tr_next ?_
    · have hn' : t ∉ k := by simpa using hn
      refine tr_seq (tr_asg (T := fun u => ∃ l' : List T3, (∀ u, u ∈ l' ↔ u ∈ readings (bk β) t) ∧ u = .d (.tuple (l'.map tD))) (pn_call (⟨β, t, bl, ok t htl⟩ : ThI) (qa_cons (ps rfl) (qa_cons (pd rfl) qa_nil)) (fun t m => by simp at m; rcases m with rfl | rfl <;> trivial) fun r ⟨l', h1, e⟩ => by rw [e]; exact ⟨trivial, l', h1, rfl⟩) ?_)
      rintro _ ⟨l', hl', rfl⟩
      refine tr_for (si_seqT (pd rfl)) (fun _ j b c γ => b = [insC K (cB K) [("ties", .sem (tiesS K β))]] ∧ Wk γ [.bas 0, .sem (tiesS K β), .d (.list (l.map tD)), .cel 0, .any, .d (.tuple (l'.map tD)), .any, .any, .any, .any] ∧ ∃ k', c = [dtC K k'] ∧ Kc β.length k' ∧ ∀ u, u ∈ k' ↔ u ∈ k ∨ u ∈ l'.take j)
        (fun _ _ => ⟨rfl, ⟨.inr rfl, .inr rfl, .inr rfl, .inr rfl, .inl rfl, .inr rfl, .inl rfl, .inr rfl, .inr rfl, .inr rfl, trivial⟩, k, rfl, hk, fun u => by simp⟩) ?_ ?_
      · rintro ds j d b c γ rfl hd ⟨rfl, hw, k', rfl, hk', hc'⟩
        obtain ⟨u, hu, rfl⟩ := ts_at hd
        have hul := List.mem_of_getElem? hu
        have u0 : 0 < l'.length := List.length_pos_of_mem hul
        have hu3 := rd_in bl (ok t htl) ((hl' u).mp hul)
        refine ⟨_, _, tg_name, tr_wk (wk_set hw) ?_⟩
        refine tr_dtPut (u := l'[0]) rfl rfl (by have := hk'.few hm; omega) (pd_op (pd rfl) pc_int (ro_ixT (atI_nat' (i := 0) (by rw [List.getElem?_map, List.getElem?_eq_getElem u0]; rfl)))) (pd rfl) ?_
        refine ⟨rfl, ⟨.inr rfl, .inr rfl, .inr rfl, .inr rfl, .inl rfl, .inr rfl, .inl rfl, .inr rfl, .inr rfl, .inr rfl, trivial⟩, put3 k' u, rfl, hk'.put hu3, fun v => ?_⟩
        rw [mem_put3, hc', take_succ hu]
        simp [or_assoc]
      · rintro ds b c γ rfl ⟨rfl, hw, k', rfl, hk', hc'⟩
        refine ⟨rfl, wk_trans hw ⟨.inr rfl, .inr rfl, .inr rfl, .inr rfl, .inl rfl, .inl rfl, .inl rfl, .inr rfl, .inr rfl, .inr rfl, trivial⟩, k', rfl, hk', fun u => ?_⟩
        rw [hc', hc u, take_succ ht]
        have e : l'.take (l'.map tD).length = l' := by rw [List.length_map, List.take_length]
        rw [e, hl']
        unfold clo
        rw [List.any_append]
        simp
    · have hn' : t ∈ k := by simpa using hn
      refine ⟨rfl, ⟨.inr rfl, .inr rfl, .inr rfl, .inr rfl, .inl rfl, .inr rfl, .inr rfl, .inr rfl, .inr rfl, .inr rfl, trivial⟩, k, rfl, hk, fun u => ?_⟩
      rw [hc u, take_succ ht]
      have h0 : clo (bk β) (l.take i) t = true := (hc t).mp hn'
      unfold clo
      rw [List.any_append]
      simp only [Bool.or_eq_true, List.any_cons, List.any_nil, Bool.or_false]
      refine ⟨.inl, fun h => h.elim id fun h => ?_⟩
      obtain ⟨y, hy, ht2⟩ := clo_iff.mp h0
      have hyl : y ∈ l := List.mem_of_mem_take hy
      have hu : u ∈ readings (bk β) t := by simpa using h
      exact clo_iff.mpr ⟨y, hy, (rd_same bl (ok y hyl) ht2 u).mp hu⟩
  · rintro ds b c γ rfl ⟨rfl, hw, k, rfl, hk, hc⟩
    rw [List.length_map, List.take_length] at hc
    refine tr_wk hw ?_
    have hk64 := hk.few hm
    have hsort : (k.map tD).mergeSort (dataLe false id) = barD β.length (clo (bk β) l) := sort_ts hm hk.nd fun t => by
      rw [hc t]
      refine ⟨fun h => ⟨hk.ok t ((hc t).mpr h), h⟩, fun h => h.2⟩
    refine tr_seq (tr_fld (t := .d (.tuple (barD β.length (clo (bk β) l)))) rfl rfl (pn_tupL (t := .sem (sLst K _)) ?_ (.s _)) trivial T.c_Book T.n_Book_barred (by kernel_rfl) (by show 1 < 1000; decide) ?_)
    · rw [← hsort]
      refine (pf_sortD (pf_dtList rfl rfl) (ts_alike k) (ts_sortable k) (by rw [List.length_map]; omega) fun d hd => ?_).psd
      obtain ⟨t, _, rfl⟩ := tDs_mem hd
      exact Nat.le_trans (fl_t t).2 (by decide)
    have hbl : (barD β.length (clo (bk β) l)).length ≤ 64 := by
      unfold barD barL
      rw [List.length_map]
      exact Nat.le_trans (List.length_filter_le _ _) (all_len hm)
    refine tr_seq (tr_fld (t := .sem anyS) rfl rfl (pn_anyS (pn_tupLG (T := fun _ => True) ((pf_lc (T := (· = barD β.length (clo (bk β) l))) (TR := fun _ => True) (si_seqT (pn_fldB (k := 0) rfl rfl (by kernel_rfl) T.c_Book T.n_Book_barred)) (fun ds j acc => acc.length ≤ j ∧ j ≤ ds.length) (fun _ _ => ⟨Nat.le_refl _, Nat.zero_le _⟩) (fun ds j acc e a => by rw [e] at a; omega) ?_ fun _ _ _ _ => trivial).ps))) trivial T.c_Book T.n_Book_least_barred (by kernel_rfl) (by show 2 < 1000; decide) ?_)
    · rintro ds j d rfl hd
      have hj := (List.getElem?_eq_some_iff.mp hd).1
      obtain ⟨t, ht, rfl⟩ := ts_at hd
      have htk : t ∈ k := (hc t).mpr (List.mem_filter.mp (List.mem_of_getElem? ht)).2
      refine ⟨_, _, tg_name, fun x hx => hx, fun _ => True, qt_any (pn_op (T1 := fun u => ∃ t' : T3, u = .d (tD t')) (pn_dtGet (k := 0) rfl rfl (pd rfl) htk) (pd (x := tD t) rfl) fun u v ⟨t', e1⟩ e2 => ?_), fun _ => ?_, fun _ acc a => ⟨by omega, by omega⟩⟩
      · rw [e1, e2]
        exact (ro_eq ((fl_t _).sh (by decide)) ((fl_t _).sh (by decide))).mono fun z e => ⟨_, trivial, e⟩
      · exact (pd (x := tD t) rfl).mono fun z e => ⟨_, e, fun acc a => ⟨by rw [List.length_append]; simp; omega, by omega⟩⟩
    refine tr_fld (t := .d (gridD β.length (clo (bk β) l))) rfl rfl ?_ trivial T.c_Book T.n_Book_grid (by kernel_rfl) (by show 3 < 1000; decide) rfl
    have hin : ∀ t, clo (bk β) l t = decide (t ∈ k) := fun t => by
      cases e : clo (bk β) l t with
      | true => exact (decide_eq_true ((hc t).mpr e)).symm
      | false => exact (decide_eq_false fun m => by rw [(hc t).mp m] at e; cases e).symm
    have hmz : β.length ≤ 1000000 := by omega
    have rl : ∀ {n : Nat} {f : Nat → PyData}, ((List.range n).map f).length = (rgD 0 n).length := fun {n f} => by rw [rgD_len]; simp
    refine pn_tupL (pf_map (ds := rgD 0 β.length) (si_rng1 (pn_many T (ps (s := tiesS K β) rfl)) hmz) (by rw [rgD_len]; omega) rl rfl fun p d hd => ?_).psd (.s _)
    obtain ⟨hp, rfl⟩ := rgD_get hd
    rw [Nat.zero_add]
    refine ⟨gridRow β.length (clo (bk β) l) p, range_map_at hp, ?_⟩
    refine pn_tupL (pf_map (ds := rgD 0 β.length) (si_rng1 (pn_many T (ps (s := tiesS K β) rfl)) hmz) (by rw [rgD_len]; omega) rl rfl fun q d hd => ?_).psd (.s _)
    obtain ⟨hq, rfl⟩ := rgD_get hd
    rw [Nat.zero_add]
    refine ⟨gridCol β.length (clo (bk β) l) p q, range_map_at hq, ?_⟩
    refine pn_tupL (pf_map (ds := rgD 0 β.length) (si_rng1 (pn_many T (ps (s := tiesS K β) rfl)) hmz) (by rw [rgD_len]; omega) rl rfl fun r d hd => ?_).psd (.s _)
    obtain ⟨hr, rfl⟩ := rgD_get hd
    rw [Nat.zero_add]
    refine ⟨.bool (clo (bk β) l (p, q, r)), range_map_at hr, ?_⟩
    rw [hin]
    exact pn_dtIn (k := 0) rfl rfl (pn_t3 (pd rfl) (pd rfl) (pd rfl))
end
end Z
set_option Elab.async false
set_option linter.all false
set_option maxRecDepth 100000
set_option maxHeartbeats 1000000
namespace Z
open PySem PySem.Spec PyProof.Rows L2
open StX (tStar pa_star)
section
variable {P : Program} {w : World} {K : PySem.W.Frag} {bc cs : List Cell} {Γ : List Tv} {E : XK} {N : List Cell → List Cell → List Tv → Prop} {R : List Cell → Rv → Prop} {X : Xv → Prop} {mg : Str → Option Value}
/-! ### two clauses -/
/-- what is made so far lies at D -/
def LcP (K : PySem.W.Frag) (bc cs : List Cell) (Γ : List Tv) (M bs ls : List Addr) (σ : L2.St) (D : Addr) (H1 : Hp) (A : List PyData → Prop) (H : Hp) : Prop :=
  ∃ acc vs, A acc ∧ H D = some (.lst vs) ∧ DqAll K (hid (ls ++ (bs ++ (D :: M))) H) vs acc ∧ St K bc cs Γ (D :: M) bs ls σ H ∧ Kp bs ls H1 H
theorem LcP.keep {M bs ls : List Addr} {σ : L2.St} {D : Addr} {H1 H H' : Hp} {A A' : List PyData → Prop} (h : LcP K bc cs Γ M bs ls σ D H1 A H) (k : Kp bs ls H H') (S' : ∀ {σ' : L2.St} {γ : List Tv}, True → True) {σ2 : L2.St} {γ' : List Tv} (S2 : St K bc cs γ' (D :: M) bs ls σ2 H') (a : ∀ acc, A acc → A' acc) : LcP K bc cs Γ M bs ls σ D H1 A' H' := by
  obtain ⟨acc, vs, hA, hD, hd, S, k1⟩ := h
  have nd : D ∉ ls ∧ D ∉ bs := ⟨fun z => S.dis D (List.mem_append_left _ z) List.mem_cons_self, fun z => S.dis D (List.mem_append_right _ z) List.mem_cons_self⟩
  exact ⟨acc, vs, a acc hA, k.k D _ nd.1 nd.2 hD, DqAll.ex k.ex _ _ hd, S2.with (S.env.ex k.ex), k1.trans k⟩
theorem LcP.push {M bs ls : List Addr} {σ : L2.St} {D : Addr} {H1 H H' : Hp} {A A' : List PyData → Prop} (h : LcP K bc cs Γ M bs ls σ D H1 A H) (k : Kp bs ls H H') {σ2 : L2.St} {γ' : List Tv} (S2 : St K bc cs γ' (D :: M) bs ls σ2 H') (nD : H1 D = none)
    {y : V} {d : PyData} (hy : Dq K (hid (ls ++ (bs ++ (D :: M))) H') y d) (hz : ∀ acc, A acc → acc.length ≤ 1000) (a : ∀ acc, A acc → A' (acc ++ [d])) :
    ∃ acc, H' D = some (.lst acc) ∧ acc.length < sizeLine ∧ LcP K bc cs Γ M bs ls σ D H1 A' (upd H' D (.lst (acc ++ [y]))) := by
  obtain ⟨acc, vs, hA, hD, hd, S, k1⟩ := h
  have nd : D ∉ ls ∧ D ∉ bs := ⟨fun z => S.dis D (List.mem_append_left _ z) List.mem_cons_self, fun z => S.dis D (List.mem_append_right _ z) List.mem_cons_self⟩
  have hD4 := k.k D _ nd.1 nd.2 hD
  have hin : D ∈ ls ++ (bs ++ (D :: M)) := by simp
  refine ⟨vs, hD4, by rw [DqAll.len hd]; exact small1000 (hz acc hA), acc ++ [d], vs ++ [y], a acc hA, upd_same, ?_, (S2.with (S.env.ex k.ex)).updM List.mem_cons_self, ?_⟩
  · rw [hid_upd hin]
    exact DqAll.app (DqAll.ex k.ex _ _ hd) (DqAll.one hy)
  · have k6 := k1.trans k
    refine ⟨fun b o h1 h2 e => ?_, fun b h => ?_⟩
    · rw [upd_ne fun z => by rw [z, nD] at e; cases e]
      exact k6.k b o h1 h2 e
    · by_cases e : b = D
      · rw [e, upd_same]
        exact fun z => by cases z
      · rw [upd_ne e]
        exact k6.d b h
theorem wipe_wipe {σ : L2.St} : ∀ vs : List Nat, wipe (wipe σ vs) vs = wipe σ vs := by
  have key : ∀ (us : List Nat) (u : Nat), u ∈ us → (wipe σ us).set u none = wipe σ us := by
    intro us
    induction us with
    | nil => intro u h; cases h
    | cons v us ih =>
      intro u h
      show ((wipe σ us).set v none).set u none = (wipe σ us).set v none
      by_cases e : u = v
      · rw [e, List.set_set]
      · rcases List.mem_cons.mp h with z | z
        · exact absurd z e
        · rw [List.set_comm _ _ (fun q => e q.symm), ih u z]
  intro vs
  have ww : ∀ us : List Nat, (∀ u, u ∈ us → u ∈ vs) → wipe (wipe σ vs) us = wipe σ vs := by
    intro us
    induction us with
    | nil => intro _; rfl
    | cons u us ih =>
      intro h
      show (wipe (wipe σ vs) us).set u none = _
      rw [ih fun x hx => h x (List.mem_cons_of_mem _ hx)]
      exact key vs u (h u List.mem_cons_self)
  exact ww vs fun _ h => h
theorem pf_lc2 {wi wi1 : TI} {g g1 : TG} {tt1 : TT} {te : TE} {vs vs1 : List Nat} {T : List PyData → Prop} {TR : List PyData → Prop} (hs : Si K bc cs Γ wi T) (A : List PyData → Nat → List PyData → Prop) (h0 : ∀ ds, T ds → A ds 0 [])
    (step : ∀ ds i d, T ds → ds[i]? = some d → ∃ γ' is, Tg K g d (wipeT Γ vs) γ' is ∧ (∀ i, i ∈ is → i ∈ vs) ∧ ∃ es, Si K bc cs γ' wi1 (· = es) ∧ ∃ A1 : Nat → List PyData → Prop,
      (∀ acc, A ds i acc → A1 0 acc) ∧ (∀ acc, A1 es.length acc → A ds (i + 1) acc) ∧ (∀ j acc, A1 j acc → acc.length ≤ 1000) ∧
      ∀ (j : Nat) e, es[j]? = some e → ∃ γ2 is1, Tg K g1 e (wipeT γ' vs1) γ2 is1 ∧ (∀ i, i ∈ is1 → i ∈ vs1) ∧ ∃ B : Bool → Prop, Pt K bc cs γ2 tt1 B ∧
        (B true → Pn K bc cs γ2 te (fun t => ∃ y, t = .d y ∧ ∀ acc, A1 j acc → A1 (j + 1) (acc ++ [y]))) ∧ (B false → ∀ acc, A1 j acc → A1 (j + 1) acc))
    (hd : ∀ ds acc, T ds → A ds ds.length acc → TR acc) : Pf K bc cs Γ (tLc2 wi g tYes wi1 g1 tt1 te vs vs1) TR := fun M bs ls σ H S Q q => by
  refine hs M bs ls σ H S _ fun J ds H1 G Y hT S1 k1 w hG hY D nD => ?_
  refine ⟨fun i m H' => m = ds.length - i ∧ i ≤ ds.length ∧ LcP K bc cs Γ M bs ls σ D H1 (A ds i) H', ⟨ds.length, by simp, Nat.zero_le _, [], [], h0 ds hT, upd_same, .nil, S1.hide nD, Kp.of_ex (ex_upd nD)⟩, ?_⟩
  rintro i m H' ⟨rfl, hi, hL⟩
  obtain ⟨acc0, vs0, hA0, hD0, hd0, S', k⟩ := id hL
  have hGi := hG H' (Ex.trans k.ex hid_ex)
  by_cases hlt : i < ds.length
  · refine .inr ⟨w.goes i H' hlt hGi, fun H2 => LcP K bc cs Γ M bs ls σ D H1 (A ds (i + 1)) H2, fun H2 p => ⟨ds.length - (i + 1), by omega, rfl, hlt, p⟩, fun x H'' hy => ?_⟩
    obtain ⟨ex, d, hdd, hdp⟩ := hY i H' x H'' hlt (Ex.trans k.ex hid_ex) (w.yields i H' x H'' hlt hGi hy)
    obtain ⟨γ', is, tg, his, es, hs1, A1, a0, a1, az, inner⟩ := step ds i d hT hdd
    have S2 := S'.ex ex
    have gx : Ex (hid (ls ++ (bs ++ M)) H1) (hid (ls ++ (bs ++ (D :: M))) H') := fun b o e => by
      obtain ⟨e1, e2⟩ := hid_at e
      have nb : b ≠ D := fun z => by rw [z, nD] at e2; cases e2
      rw [hid_of fun z => e1 (mem4 nb z)]
      exact k.k b o (fun z => e1 (List.mem_append_left _ z)) (fun z => e1 (List.mem_append_right _ (List.mem_append_left _ z))) e2
    have dp := hdp _ gx fun a m => (S'.alive a m).1
    refine tg bs ls (ls ++ (bs ++ (D :: M))) H'' (wipe σ vs) x (S2.env.wipes vs) dp _ fun σ2 e2 w2 => ⟨by rw [w2 vs his]; exact wipe_wipe vs, ?_⟩
    unfold tYes
    dsimp only
    rw [if_pos rfl]
    have kk : Kp bs ls H' H'' := Kp.of_ex ex
    refine hs1 (D :: M) bs ls σ2 H'' (S2.with e2) _ fun J1 es' H4 G1 Y1 eT S4 k4 w1 hG1 hY1 => ?_
    subst eT
    have hL4 : LcP K bc cs Γ M bs ls σ D H1 (A1 0) H4 := hL.keep (kk.trans k4) (fun _ => trivial) S4 a0
    refine ⟨fun j m H5 => m = es'.length - j ∧ j ≤ es'.length ∧ LcP K bc cs Γ M bs ls σ D H1 (A1 j) H5 ∧ (∀ b o, b ≠ D → b ∉ ls → b ∉ bs → H4 b = some o → H5 b = some o) ∧ St K bc cs γ' (D :: M) bs ls σ2 H5, ⟨es'.length, by simp, Nat.zero_le _, hL4, fun _ _ _ _ _ e => e, S4⟩, ?_⟩
    rintro j m H5 ⟨rfl, hj, hL5, k5, S5⟩
    have hex5 : Ex (hid (ls ++ (bs ++ (D :: M))) H4) (hid (ls ++ (bs ++ (D :: M))) H5) := hid_sub (fun _ h => h) fun b o h e => k5 b o (fun z => h (by rw [z]; simp)) (fun z => h (List.mem_append_left _ z)) (fun z => h (List.mem_append_right _ (List.mem_append_left _ z))) e
    have hG5 := hG1 H5 (Ex.trans hex5 hid_ex)
    by_cases hlt1 : j < es'.length
    · refine .inr ⟨w1.goes j H5 hlt1 hG5, fun H6 => LcP K bc cs Γ M bs ls σ D H1 (A1 (j + 1)) H6 ∧ (∀ b o, b ≠ D → b ∉ ls → b ∉ bs → H4 b = some o → H6 b = some o) ∧ St K bc cs γ' (D :: M) bs ls σ2 H6, fun H6 p => ⟨es'.length - (j + 1), by omega, rfl, hlt1, p.1, p.2.1, p.2.2⟩, fun y H6 hy1 => ?_⟩
      obtain ⟨ex6, e, hee, hdp6⟩ := hY1 j H5 y H6 hlt1 (Ex.trans hex5 hid_ex) (w1.yields j H5 y H6 hlt1 hG5 hy1)
      obtain ⟨γ2, is1, tg1, his1, B, pt, pe, pe'⟩ := inner j e hee
      have S6 := S5.ex ex6
      have dp6 := hdp6 _ hex5 fun a m => (S5.alive a m).1
      refine tg1 bs ls (ls ++ (bs ++ (D :: M))) H6 (wipe σ2 vs1) y (S6.env.wipes vs1) dp6 _ fun σ3 e3 w3 => ⟨by rw [w3 vs1 his1]; exact wipe_wipe vs1, ?_⟩
      have k6 : Kp bs ls H5 H6 := Kp.of_ex ex6
      refine pt (D :: M) bs ls σ3 H6 (S6.with e3) _ fun b H7 hb S7 k7 => ?_
      have k57 := k6.trans k7
      cases b with
      | false =>
        rw [if_neg (by decide)]
        exact ⟨hL5.keep k57 (fun _ => trivial) S7 (pe' hb), fun b o n1 n2 n3 eb => k57.k b o n2 n3 (k5 b o n1 n2 n3 eb), S7.with (S5.env.ex k57.ex)⟩
      | true =>
        rw [if_pos rfl]
        refine pe hb (D :: M) bs ls σ3 H7 S7 _ fun t z H8 ht S8 k8 hz2 => ?_
        obtain ⟨yd, rfl, hA'⟩ := ht
        have k58 := k57.trans k8
        obtain ⟨acc, c1, c2, c3⟩ := hL5.push k58 S8 nD hz2 (az j) hA'
        refine ⟨acc, c1, c2, c3, fun b o n1 n2 n3 eb => ?_, (S8.with (S5.env.ex k58.ex)).updM List.mem_cons_self⟩
        rw [upd_ne n1]
        exact k58.k b o n2 n3 (k5 b o n1 n2 n3 eb)
    · have e : j = es'.length := by omega
      subst e
      refine .inl ⟨w1.stops H5 hG5, ?_⟩
      obtain ⟨acc, vs', hA, r⟩ := hL5
      exact ⟨acc, vs', a1 acc hA, r⟩
  · have e : i = ds.length := by omega
    subst e
    refine .inl ⟨w.stops H' hGi, q acc0 vs0 D H' (hd ds acc0 hT hA0) (k1.free nD) S' (k1.trans k) hD0 hd0⟩
end
end Z
set_option Elab.async false
set_option linter.all false
set_option maxRecDepth 100000
set_option maxHeartbeats 1000000
namespace Z
open PySem PySem.Spec PyProof.Rows L2
open StX (tStar pa_star)
/-! ### the orders of m things, in their turn -/
def extR (m : Nat) (rows : List (List Nat)) : List (List Nat) := rows.flatMap fun r => ((List.range m).filter fun x => !r.contains x).map fun x => r ++ [x]
def ordK (m : Nat) : Nat → List (List Nat)
  | 0 => [[]]
  | k + 1 => extR m (ordK m k)
/-- names keep the backs -/
def kp (β r : List Nat) : Bool := (List.range β.length).all fun t => decide (bk β (bk r t) = bk r (bk β t))
def namings (β : List Nat) : List (List Nat) := (ordK β.length β.length).filter (kp β)
def Row (m k : Nat) (r : List Nat) : Prop := r.length = k ∧ (∀ x, x ∈ r → x < m) ∧ r.Nodup
instance (m k : Nat) (r : List Nat) : Decidable (Row m k r) := by unfold Row; infer_instance
theorem ord_row {m : Nat} : ∀ {k : Nat} {r : List Nat}, r ∈ ordK m k → Row m k r
  | 0, r, h => by
    have e : r = [] := by simpa [ordK] using h
    rw [e]
    exact ⟨rfl, by simp, List.nodup_nil⟩
  | k + 1, r, h => by
    simp only [ordK, extR, List.mem_flatMap, List.mem_map, List.mem_filter, List.mem_range] at h
    obtain ⟨r0, h0, x, ⟨hx, hn⟩, rfl⟩ := h
    obtain ⟨h1, h2, h3⟩ := ord_row h0
    have hn' : x ∉ r0 := by simpa using hn
    refine ⟨by simp [h1], fun y hy => ?_, ?_⟩
    · rcases List.mem_append.mp hy with q | q
      · exact h2 y q
      · rw [List.mem_singleton.mp q]; exact hx
    · rw [List.nodup_append]
      exact ⟨h3, by simp, fun a ha b hb => by rw [List.mem_singleton.mp hb]; exact fun z => hn' (by rw [← z]; exact ha)⟩
theorem ord_few {m k : Nat} (hm : m ≤ 4) (hk : k ≤ m) : (ordK m k).length ≤ 24 := by
  match m, k, hm, hk with
  | 0, 0, _, _ => decide +kernel
  | 1, 0, _, _ => decide +kernel
  | 1, 1, _, _ => decide +kernel
  | 2, 0, _, _ => decide +kernel
  | 2, 1, _, _ => decide +kernel
  | 2, 2, _, _ => decide +kernel
  | 3, 0, _, _ => decide +kernel
  | 3, 1, _, _ => decide +kernel
  | 3, 2, _, _ => decide +kernel
  | 3, 3, _, _ => decide +kernel
  | 4, 0, _, _ => decide +kernel
  | 4, 1, _, _ => decide +kernel
  | 4, 2, _, _ => decide +kernel
  | 4, 3, _, _ => decide +kernel
  | 4, 4, _, _ => decide +kernel
section
variable {P : Program} {w : World} {K : PySem.W.Frag} {bc cs : List Cell} {Γ : List Tv} {E : XK} {N : List Cell → List Cell → List Tv → Prop} {R : List Cell → Rv → Prop} {X : Xv → Prop} {mg : Str → Option Value}
/-! ### _keeps_backs -/
structure NmI where
  β : List Nat
  r : List Nat
  bl : Bks β
  ok : Row β.length β.length r
abbrev kbTs (K : PySem.W.Frag) : NmI → List Tv := fun x => [.sem (tiesS K x.β), .d (.tuple (isD x.r))]
abbrev kbR : NmI → Rv → Prop := fun x r => r = .tv (.d (.bool (kp x.β x.r)))
abbrev spKb (K : PySem.W.Frag) : Sp := Pro K [] (kbTs K) kbR
theorem kp_iff {β r : List Nat} : kp β r = true ↔ ∀ t, t < β.length → bk β (bk r t) = bk r (bk β t) := by
  simp [kp]
theorem tr_keeps_backs (T : Tx K mg) (x : NmI) : Trp K [] E (t_keeps_backs K) 1 (kbTs K) kbR x := by
  obtain ⟨β, r, bl, hl, hlt, hnd⟩ := x
  have hm := bl.hi
  refine tr_seq (tr_for (si_rng1 (pn_many T (ps (s := tiesS K β) rfl)) (by omega)) (fun _ i b c γ => b = [] ∧ c = [] ∧ Wk γ [.sem (tiesS K β), .d (.tuple (isD r)), .any] ∧ ∀ t, t < i → bk β (bk r t) = bk r (bk β t)) (fun _ _ => ⟨rfl, rfl, Wk.refl _, fun t h => absurd h (Nat.not_lt_zero t)⟩) ?_ ?_)
  · rintro ds i d b c γ rfl hd ⟨rfl, rfl, hw, hi⟩
    obtain ⟨hi2, rfl⟩ := rgD_get hd
    rw [Nat.zero_add]
    refine ⟨_, _, tg_name, tr_wk (wk_set hw) ?_⟩
    have h1 : bk r i < β.length := hlt _ (bk_mem (by rw [hl]; exact hi2))
    have h2 := bl.lt i hi2
    refine tr_if (qt_of (pd_op (pd_op (pn_ties T (ps (s := tiesS K β) rfl)) (pd_op (pd rfl) (pd rfl) (ro_ixT (isD_atI (by rw [hl]; exact hi2)))) (ro_ixT (isD_atI h1))) (pd_op (pd rfl) (pd_op (pn_ties T (ps (s := tiesS K β) rfl)) (pd rfl) (ro_ixT (isD_atI hi2))) (ro_ixT (isD_atI (by rw [hl]; exact h2)))) (ro_ne sh_int sh_int))) (fun hb => ?_) fun hb => tr_next ?_
    · rw [eqv_int] at hb
      refine tr_retD (x := .bool false) pc_bl ⟨rfl, ?_⟩
      have : kp β r = false := by
        cases e : kp β r with
        | false => rfl
        | true =>
          have := kp_iff.mp e i hi2
          simp [this] at hb
      show Rv.tv (.d (.bool false)) = .tv (.d (.bool (kp β r)))
      rw [this]
    · rw [eqv_int] at hb
      refine ⟨rfl, rfl, ⟨.inr rfl, .inr rfl, .inl rfl, trivial⟩, fun t ht => ?_⟩
      by_cases e : t = i
      · rw [e]
        have : decide (((bk β (bk r i) : Nat) : Int) = ((bk r (bk β i) : Nat) : Int)) = true := by simpa using hb
        have := of_decide_eq_true this
        omega
      · exact hi t (by omega)
  · rintro ds b c γ rfl ⟨rfl, rfl, hw, hi⟩
    rw [rgD_len] at hi
    refine tr_retD (x := .bool true) pc_bl ⟨rfl, ?_⟩
    show Rv.tv (.d (.bool true)) = .tv (.d (.bool (kp β r)))
    rw [kp_iff.mpr hi]
/-! ### _all_names -/
def rowT (r : List Nat) : PyData := .tuple (isD r)
abbrev anTs (K : PySem.W.Frag) : BksI → List Tv := fun x => [.sem (tiesS K x.1)]
abbrev anR : BksI → Rv → Prop := fun x r => r = .fr ((namings x.1).map rowT)
abbrev spAn (K : PySem.W.Frag) : Sp := Pro K [] (anTs K) anR
theorem map_at {α β : Type} {f : α → β} {l : List α} {i : Nat} {d : β} (h : (l.map f)[i]? = some d) : ∃ t, l[i]? = some t ∧ d = f t := by
  rw [List.getElem?_map] at h
  cases e : l[i]? with
  | none =>
    rw [e] at h
    cases h
  | some t =>
    rw [e] at h
    exact ⟨t, rfl, (Option.some.inj h).symm⟩
theorem flatTuple {bs ls : List Addr} {H : Hp} {v : V} {r : List Nat} (h : Dq K H v (rowT r)) : ∃ p, v = .ref p ∧ H p = some (.tup (r.map fun x => V.int (x : Nat))) := by
  cases h with
  | tup ha hb =>
    rename_i a xs
    have key : ∀ {xs : List V} {r : List Nat}, DqAll K H xs (isD r) → xs = r.map fun x => V.int (x : Nat) := by
      intro xs
      induction xs with
      | nil =>
        intro r h
        cases r with
        | nil => rfl
        | cons _ _ => cases h
      | cons y xs ih =>
        intro r h
        cases r with
        | nil => cases h
        | cons n r =>
          cases h with
          | cons h1 h2 =>
            cases h1
            rw [ih h2]
            rfl
    rw [key hb] at ha
    exact ⟨a, rfl, ha⟩
theorem inV_ints {n : Nat} {r : List Nat} : inV (.int (n : Nat)) (r.map fun x => V.int (x : Nat)) = r.contains n := by
  unfold inV
  induction r with
  | nil => rfl
  | cons a r ih =>
    rw [List.map_cons, List.any_cons, ih, List.contains_cons]
    congr 1
    rw [Bool.eq_iff_iff]
    simp only [eqV, decide_eq_true_eq, beq_iff_eq]
    omega
/-- n not in a tuple of ints -/
theorem ro_notInT {n : Nat} {r : List Nat} : Ro K bc cs Γ (rIn K true) (.d (iD n)) (.d (rowT r)) (· = .d (.bool (!r.contains n))) := ro_val fun M bs ls σ H a b S hx hy Q q => by
  cases hx
  obtain ⟨p, rfl, hp⟩ := flatTuple (bs := bs) (ls := ls) hy
  refine ⟨p, _, rfl, .inr (SqT.of (hid_ex _ _ hp)), rfl, by simp [flatV], ?_⟩
  rw [if_pos rfl, inV_ints]
  exact q _ (.bl _)
/-- ( *r, n) -/
theorem pn_starT {tr tn : TE} {n : Nat} {r : List Nat} (h : Pn K bc cs Γ tr (· = .d (rowT r))) (g : Pn K bc cs Γ tn (· = .d (iD n))) (hz : r.length ≤ 100) : Pn K bc cs Γ (tTup (tStar K tr (tCons tn tNil))) (· = .d (rowT (r ++ [n]))) := by
  refine pn_tup (ds := isD (r ++ [n])) (fun M bs ls σ H S Q q => h M bs ls σ H S _ fun t v H1 ht S1 k1 hv => ?_) (by simp [isD]; omega)
  subst ht
  have hv0 := hv
  cases hv with
  | tup ha hb =>
    rename_i a xs
    refine ⟨a, xs, rfl, .inl (SqT.of (hid_ex _ _ ha)), g M bs ls σ H1 S1 _ fun t2 v2 H2 ht2 S2 k2 hv2 => ?_⟩
    subst ht2
    refine q _ _ H2 rfl S2 (k1.trans k2) ?_
    have key : ∀ {xs : List V} {ds : List PyData}, DqAll K (hid (ls ++ (bs ++ M)) H1) xs ds → HoldsAll K bs ls (hid (ls ++ (bs ++ M)) H2) (xs ++ [v2]) (ds.map Tv.d ++ [.d (iD n)]) := by
      intro xs
      induction xs with
      | nil =>
        intro ds hd
        cases hd
        exact ⟨hv2, trivial⟩
      | cons y xs ih =>
        intro ds hd
        cases ds with
        | nil => cases hd
        | cons e ds =>
          cases hd with
          | cons h1 h2 => exact ⟨Dq.ex k2.ex _ _ h1, ih h2⟩
    have e : (isD (r ++ [n])).map Tv.d = (isD r).map Tv.d ++ [.d (iD n)] := by simp [isD]
    rw [e]
    exact key hb
theorem extR_take {m : Nat} {rows : List (List Nat)} {i : Nat} {r : List Nat} (h : rows[i]? = some r) : extR m (rows.take (i + 1)) = extR m (rows.take i) ++ ((List.range m).filter fun x => !r.contains x).map fun x => r ++ [x] := by
  unfold extR
  rw [take_succ h, List.flatMap_append]
  simp
theorem extR_len {m : Nat} {rows : List (List Nat)} : (extR m rows).length ≤ rows.length * m := by
  unfold extR
  induction rows with
  | nil => simp
  | cons r rows ih =>
    rw [List.flatMap_cons, List.length_append, List.length_map, List.length_cons, Nat.succ_mul]
    have := List.length_filter_le (fun x => !r.contains x) (List.range m)
    rw [List.length_range] at this
    omega
theorem range_take {m j : Nat} (h : j < m) : (List.range m).take (j + 1) = (List.range m).take j ++ [j] := take_succ (List.getElem?_range h)
theorem tr_all_names (T : Tx K mg) (x : BksI) : Trp K [] E (t_all_names K (spKb K)) 4 (anTs K) anR x := by
  obtain ⟨β, bl⟩ := x
  have hm := bl.hi
  refine tr_seq (tr_set (t := .sem (sLst K [rowT []])) (pf_lstD (qa_cons (pn_tup (ds := []) qa_nil (by decide)) qa_nil) (by decide)).psd ?_)
  refine tr_seq (tr_for (si_rng1 (pn_many T (ps (s := tiesS K β) rfl)) (by omega)) (fun _ i b c γ => b = [] ∧ c = [] ∧ Wk γ [.sem (tiesS K β), .sem (sLst K ((ordK β.length i).map rowT)), .any, .any, .any]) (fun _ _ => ⟨rfl, rfl, Wk.refl _⟩) ?_ ?_)
  · rintro ds i d b c γ rfl hd ⟨rfl, rfl, hw⟩
    obtain ⟨hi, rfl⟩ := rgD_get hd
    refine ⟨_, _, tg_name, tr_wk (wk_set hw) ?_⟩
    have hfew := ord_few hm (Nat.le_of_lt hi)
    refine tr_asg (T := fun t => t = .sem (sLst K ((ordK β.length (i + 1)).map rowT))) ?_ fun t e => by rw [e]; exact ⟨rfl, rfl, ⟨.inr rfl, .inr rfl, .inl rfl, .inl rfl, .inl rfl, trivial⟩⟩
    refine (pf_lc2 (T := (· = (ordK β.length i).map rowT)) (TR := (· = (ordK β.length (i + 1)).map rowT)) (si_seqL (pl rfl)) (fun _ k acc => k ≤ (ordK β.length i).length ∧ acc = (extR β.length ((ordK β.length i).take k)).map rowT) (fun _ _ => ⟨Nat.zero_le _, by simp [extR]⟩) ?_ ?_).psd
    · rintro ds k d rfl hk
      obtain ⟨r, hr, rfl⟩ := map_at hk
      obtain ⟨hrl, hrm, hrn⟩ := ord_row (List.mem_of_getElem? hr)
      have hkl := (List.getElem?_eq_some_iff.mp hr).1
      refine ⟨_, _, tg_name, fun x hx => by simp at hx; simp [hx], rgD 0 β.length, si_rng1 (pn_many T (ps (s := tiesS K β) rfl)) (by omega), fun j acc => k < (ordK β.length i).length ∧ j ≤ β.length ∧ acc = (extR β.length ((ordK β.length i).take k) ++ (((List.range β.length).take j).filter fun x => !r.contains x).map fun x => r ++ [x]).map rowT, fun acc a => ⟨hkl, Nat.zero_le _, by rw [a.2]; simp⟩, fun acc a => ⟨hkl, ?_⟩, fun j acc a => ?_, fun j e he => ?_⟩
      · rw [a.2.2, extR_take hr, rgD_len]
        have : (List.range β.length).take β.length = List.range β.length := by
          have := List.take_length (l := List.range β.length)
          rwa [List.length_range] at this
        rw [this]
      · rw [a.2.2, List.length_map, List.length_append, List.length_map]
        have h1 := extR_len (m := β.length) (rows := (ordK β.length i).take k)
        rw [List.length_take] at h1
        have h2 := List.length_filter_le (fun x => !r.contains x) ((List.range β.length).take j)
        rw [List.length_take, List.length_range] at h2
        have h3 : min k (ordK β.length i).length * β.length ≤ 24 * 4 := Nat.mul_le_mul (by omega) hm
        omega
      · obtain ⟨hj, rfl⟩ := rgD_get he
        rw [Nat.zero_add]
        refine ⟨_, _, tg_name, fun x hx => hx, (· = !r.contains j), qt_of (pd_op (pd rfl) (pd rfl) ro_notInT), fun hb => ?_, fun hb acc a => ⟨a.1, hj, ?_⟩⟩
        · refine (pn_starT (pd rfl) (pd rfl) (by omega)).mono fun t e => ⟨_, e, fun acc a => ⟨a.1, hj, ?_⟩⟩
          rw [a.2.2, range_take hj, List.filter_append]
          simp only [List.map_append, List.filter_cons, List.filter_nil, ← hb, if_true, List.map_cons, List.map_nil, List.append_assoc]
        · rw [a.2.2, range_take hj, List.filter_append]
          simp only [List.filter_cons, List.filter_nil, ← hb, Bool.false_eq_true, if_false, List.append_nil]
    · rintro ds acc rfl ⟨_, e⟩
      rw [e, List.length_map, List.take_length]
      rfl
  · rintro ds b c γ rfl ⟨rfl, rfl, hw⟩
    rw [rgD_len] at hw
    refine tr_wk hw ?_
    have hfew := ord_few hm (Nat.le_refl β.length)
    refine tr_retF (T := (· = (namings β).map rowT)) ?_ fun ds e => ⟨rfl, by rw [e]⟩
    refine pf_lc (T := (· = (ordK β.length β.length).map rowT)) (si_seqL (pl rfl)) (fun _ k acc => acc = (((ordK β.length β.length).take k).filter (kp β)).map rowT) (fun _ _ => rfl) (fun ds k acc _ a => ?_) ?_ ?_
    · rw [a, List.length_map]
      have h1 := List.length_filter_le (kp β) ((ordK β.length β.length).take k)
      rw [List.length_take] at h1
      omega
    · rintro ds k d rfl hk
      obtain ⟨r, hr, rfl⟩ := map_at hk
      have hrow := ord_row (List.mem_of_getElem? hr)
      refine ⟨_, _, tg_name, fun x hx => hx, (· = kp β r), qt_B (pn_call (T := (· = .d (.bool (kp β r)))) (⟨β, r, bl, hrow⟩ : NmI) (qa_cons (ps rfl) (qa_cons (pd rfl) qa_nil)) (fun t m => by simp at m; rcases m with rfl | rfl <;> trivial) fun r e => by rw [e]; exact ⟨trivial, rfl⟩), fun hb => ?_, fun hb acc a => ?_⟩
      · refine (pd (x := rowT r) rfl).mono fun t e => ⟨_, e, fun acc a => ?_⟩
        rw [a, take_succ hr, List.filter_append]
        simp only [List.map_append, List.filter_cons, List.filter_nil, ← hb, if_true, List.map_cons, List.map_nil]
      · rw [a, take_succ hr, List.filter_append]
        simp only [List.filter_cons, List.filter_nil, ← hb, Bool.false_eq_true, if_false, List.append_nil]
    · rintro ds acc rfl e
      rw [e, List.length_map, List.take_length]
      rfl
end
end Z
set_option Elab.async false
set_option linter.all false
set_option maxRecDepth 100000
set_option maxHeartbeats 1000000
namespace Z
open PySem PySem.Spec PyProof.Rows L2
section
variable {P : Program} {w : World} {K : PySem.W.Frag} {bc cs : List Cell} {Γ : List Tv} {E : XK} {N : List Cell → List Cell → List Tv → Prop} {R : List Cell → Rv → Prop} {X : Xv → Prop} {mg : Str → Option Value}
/-! ### calls whose arguments are any of some -/
theorem pn_callG {ι : Type} {ts : ι → List Tv} {R : ι → Rv → Prop} {ta : TA} {E : XK} {TA' : List Tv → Prop} {T : Tv → Prop} (ha : Pa K bc cs Γ ta TA') (k : ∀ l, TA' l → ∃ i, l = ts i ∧ (∀ t, t ∈ l → Pur t) ∧ ∀ r, R i r → AnsT K T r) : Pn K bc cs Γ (tCall (Pro K [] ts R) [] E ta) T := fun M bs ls σ H S Q q =>
  ha M bs ls σ H S _ fun ts' vs H1 e S1 k1 hv => by
    obtain ⟨i, rfl, hp, hr⟩ := k ts' e
    rw [List.append_nil]
    refine ⟨i, _, [], S1.callee0 hp hv, fun r v H2 h2 o cb k2 hv2 => ?_⟩
    have ex := k2.ex0
    obtain ⟨t, ht, h3⟩ := ans_of S1 (hr r h2) hv2
    exact q t v H2 ht (S1.ex ex) (k1.trans (Kp.of_ex ex)) h3
theorem pn_callBG {c : Cell} {ι : Type} {ts : ι → List Tv} {R : ι → Rv → Prop} {ta : TA} {E : XK} {TA' : List Tv → Prop} {T : Tv → Prop} (ha : Pa K [c] cs Γ ta TA') (k : ∀ l, TA' l → ∃ i, l = ts i ∧ (∀ t, t ∈ l → HPur t) ∧ ∀ r, R i r → AnsT K T r) : Pn K [c] cs Γ (tCall (Pro K [c] ts R) [] E ta) T := fun M bs ls σ H S Q q =>
  ha M bs ls σ H S _ fun ts' vs H1 e S1 k1 hv => by
    obtain ⟨i, rfl, hp, hr⟩ := k ts' e
    rw [List.append_nil]
    obtain ⟨a, rfl⟩ := one_base S1.base
    refine ⟨i, _, [a], S1.calleeB hp hv, fun r v H2 h2 o cb k2 hv2 => ?_⟩
    obtain ⟨t, ht, h3⟩ := ans_ofB S1 (hr r h2) hv2
    exact q t v H2 ht (S1.afterB o cb k2) (k1.trans k2.wide) h3
theorem pn_makeG {ι : Type} {C : Addr} {ts : ι → List Tv} {ns : ι → List (Str × Tv)} {ta : TA} {E : XK} {TA' : List Tv → Prop} {T : Tv → Prop} (ha : Pa K bc cs Γ ta TA') (k : ∀ l, TA' l → ∃ i, l = ts i ∧ (∀ t, t ∈ l → Pur t) ∧ T (.sem (insS K C (ns i)))) : Pn K bc cs Γ (tMake C (ProC K C ts ns) [] E ta) T := fun M bs ls σ H S Q q =>
  ha M bs ls σ H S _ fun ts' vs H1 e S1 k1 hv => by
    obtain ⟨i, rfl, hp, hT⟩ := k ts' e
    rw [List.append_nil]
    intro x dx nx ndx ne
    have e1 : Ex H1 (upd (upd H1 dx (.own x)) x (.ins C dx [])) := Ex.trans (ex_upd ndx) (ex_upd (by rw [upd_ne (Ne.symm ne)]; exact nx))
    have np := S1.new nx
    have g : Ex (hid (ls ++ (bs ++ M)) H1) (hid ([] ++ ([x] ++ (ls ++ (bs ++ M)))) (upd (upd H1 dx (.own x)) x (.ins C dx []))) := fun b o e => by
      obtain ⟨a1, a2⟩ := hid_at e
      have nb : b ≠ x := fun z => by rw [z, nx] at a2; cases a2
      rw [hid_of fun z => by
        rcases List.mem_append.mp (show b ∈ [x] ++ (ls ++ (bs ++ M)) from z) with w | w
        · exact nb (List.mem_singleton.mp w)
        · exact a1 w]
      exact e1 b o a2
    have S1' : St K [insC K C []] [] (.bas 0 :: ts i) (ls ++ (bs ++ M)) [x] [] ((V.ref x :: vs).map some) (upd (upd H1 dx (.own x)) x (.ins C dx [])) := by
      refine ⟨by simp, fun a m z => ?_, fun m h => ?_, ⟨⟨_, upd_same, dx, [], rfl, trivial⟩, trivial⟩, trivial, ⟨⟨_, rfl, x, rfl, rfl⟩, env_inP g hp hv⟩⟩
      · have m' : a = x := by simpa using m
        rw [m'] at z
        exact nin np z
      · exact (S1.alive m h).ex e1
    refine ⟨i, _, x, S1', fun H2 o cb k2 => ⟨rfl, ?_⟩⟩
    have ex : Ex H1 H2 := fun b o e => k2.k b o (by simp) (fun z => by
      have z' : b = x := by simpa using z
      rw [z', nx] at e
      cases e) (e1 b o e)
    refine q _ _ H2 hT (S1.ex ex) (k1.trans (Kp.of_ex ex)) ?_
    obtain ⟨o', h1, h2⟩ := cb.1
    exact ⟨x, o', rfl, by rw [hid_of (nin np)]; exact h1, (insC K C (ns i)).up (hid_more fun a m => List.mem_append_right _ m) h2⟩
/-- an expression that gives an int, any -/
def anyI : Tv → Prop := fun t => ∃ k : Int, t = .d (.int k)
theorem pn_bin {r : R2} {ta tb : TE} {T1 T2 T : Tv → Prop} (ha : Pn K bc cs Γ ta T1) (hb : Pn K bc cs Γ tb T2) (hr : ∀ t u, T1 t → T2 u → Ro K bc cs Γ r t u T) : Pn K bc cs Γ (tOp r ta tb) T := pn_op ha hb hr
/-! ### _law_mix -/
abbrev mixTs : Int × Int → List Tv := fun x => [.d (.int x.1), .d (.int x.2)]
abbrev mixR : Int × Int → Rv → Prop := fun _ r => ∃ k : Int, r = .tv (.d (.int k))
abbrev spMix (K : PySem.W.Frag) : Sp := Pro K [] mixTs mixR
theorem cmulL {i j : Int} (h : 0 ≤ i) (h2 : i < 2 ^ 64) : CMul i j := .inl ⟨by omega, h2⟩
theorem tr_mix (x : Int × Int) : Trp K [] E (t_law_mix K) 2 mixTs mixR x := by
  obtain ⟨a, b⟩ := x
  have m1 : ∀ i : Int, 0 ≤ i % 2147483647 ∧ i % 2147483647 < 2147483647 := fun i => ⟨Int.emod_nonneg _ (by decide), Int.emod_lt_of_pos _ (by decide)⟩
  have m2 : ∀ i : Int, 0 ≤ i % 2147483399 ∧ i % 2147483399 < 2147483399 := fun i => ⟨Int.emod_nonneg _ (by decide), Int.emod_lt_of_pos _ (by decide)⟩
  refine tr_seq (tr_set (pd_op (pn_cb (qa_cons (pd_op (pd_op (pd_op (pd rfl) pc_int (ro_intC (.inr ⟨by decide, by decide⟩))) (pd_op (pd rfl) pc_int (ro_intC (.inr ⟨by decide, by decide⟩))) ro_int) pc_int ro_int) qa_nil) rc_int1) pc_int (ro_intC (by decide))) ?_)
  generalize hc : (a * 48271 + b * 16807 + 11) % 2147483647 = c
  have hc1 := m1 (a * 48271 + b * 16807 + 11)
  rw [hc] at hc1
  refine tr_seq (tr_set (pd_op (pn_cb (qa_cons (pd_op (pd_op (pd_op (pd rfl) (pd rfl) (ro_intC (cmulL hc1.1 (by omega)))) (pd_op (pd_op (pd rfl) pc_int (ro_intC ⟨by decide, by decide⟩)) pc_int (ro_intC (.inr ⟨by decide, by decide⟩))) ro_int) (pd_op (pd rfl) pc_int (ro_intC (.inr ⟨by decide, by decide⟩))) ro_int) qa_nil) rc_int1) pc_int (ro_intC (by decide))) ?_)
  generalize hd : (c * c + Int.fdiv c 127 * 40692 + b * 69621) % 2147483399 = d
  have hd1 := m2 (c * c + Int.fdiv c 127 * 40692 + b * 69621)
  rw [hd] at hd1
  exact tr_retD (pd_op (pd_op (pn_cb (qa_cons (pd_op (pd_op (pd_op (pd rfl) (pd rfl) (ro_intC (cmulL hd1.1 (by omega)))) pc_int (ro_intC ⟨by decide, by decide⟩)) (pd rfl) ro_int) qa_nil) rc_int1) pc_int (ro_intC (by decide))) pc_int (ro_intC ⟨by decide, by decide⟩)) ⟨rfl, _, rfl⟩
theorem pn_mix {ta tb : TE} {a b : Int} (ha : Pn K bc cs Γ ta (· = .d (.int a))) (hb : Pn K bc cs Γ tb (· = .d (.int b))) : Pn K bc cs Γ (tCall (spMix K) [] E (tCons ta (tCons tb tNil))) anyI :=
  pn_call (a, b) (qa_cons ha (qa_cons hb qa_nil)) (fun t m => by simp at m; rcases m with rfl | rfl <;> trivial) fun r ⟨k, e⟩ => by rw [e]; exact ⟨trivial, k, rfl⟩
/-! ### _law_draw -/
structure DrI where
  n : Nat
  pos : 1 ≤ n
  few : n ≤ 1000000000
abbrev drTs : DrI → List Tv := fun x => [.bas 0, .d (iD x.n)]
abbrev drR : DrI → Rv → Prop := fun x r => ∃ k : Nat, k < x.n ∧ r = .tv (.d (iD k))
abbrev spDr (K : PySem.W.Frag) : Sp := Pro K [handC K] drTs drR
/-- int(an int) % n -/
theorem pn_modn {te tn : TE} {n : Nat} (hn : 1 ≤ n) (h : Pn K bc cs Γ te anyI) (g : Pn K bc cs Γ tn (· = .d (iD n))) : Pn K bc cs Γ (tOp rMod (tCB rInt1 (tCons te tNil)) tn) (fun t => ∃ k : Nat, k < n ∧ t = .d (iD k)) := by
  refine pn_op (T1 := anyI) ?_ g fun t u ⟨k, e1⟩ e2 => ?_
  · intro M bs ls σ H S Q q
    refine h M bs ls σ H S _ fun t v H1 ⟨k, e⟩ S1 k1 hv => ?_
    subst e
    cases hv
    exact .inl ⟨k, rfl, q _ _ H1 ⟨k, rfl⟩ S1 k1 (.int k)⟩
  · rw [e1, e2]
    refine (ro_intC (by show (0 : Int) < (n : Int); omega)).mono fun t e => ?_
    refine ⟨(k % (n : Int)).toNat, ?_, ?_⟩
    · have := Int.emod_lt_of_pos k (show (0 : Int) < (n : Int) by omega)
      omega
    · rw [e]
      show Tv.d (.int (k % (n : Int))) = Tv.d (.int (((k % (n : Int)).toNat : Nat) : Int))
      rw [Int.toNat_of_nonneg (Int.emod_nonneg k (show (n : Int) ≠ 0 by omega))]
theorem anyI_of {te : TE} {k : Int} (h : Pn K bc cs Γ te (· = .d (.int k))) : Pn K bc cs Γ te anyI := h.mono fun t e => ⟨k, e⟩
theorem hl_0 {c : List Int} {i : Nat} {r t : Int} : atI (handL c i r t) (0 : Int) = some (.list (c.map .int)) := rfl
theorem hl_1 {c : List Int} {i : Nat} {r t : Int} : atI (handL c i r t) (1 : Int) = some (iD i) := rfl
theorem hl_2 {c : List Int} {i : Nat} {r t : Int} : atI (handL c i r t) (2 : Int) = some (.int r) := rfl
theorem hl_3 {c : List Int} {i : Nat} {r t : Int} : atI (handL c i r t) (3 : Int) = some (.int t) := rfl
theorem pn_hix {c : List Int} {i : Nat} {r t : Int} {k : Int} {x : PyData} (h : Γ[0]? = some (.bas 0)) (e : atI (handL c i r t) k = some x) : Pn K [lstC K (handL c i r t)] cs Γ (tOp (rIxLT K) (tVar 0) (tC (.int k))) (· = .d x) := pd_op (pb h) pc_int (ro_ixB rfl e)
theorem tr_draw (x : DrI) : Tr K [handC K] [] (drTs x ++ List.replicate 2 .any) E (t_law_draw K (spMix K)) (fun b _ _ => b = [handC K] ∧ drR x (.tv (.d .none))) (fun b r => b = [handC K] ∧ drR x r) (fun _ => False) := by
  obtain ⟨n, pos, few⟩ := x
  refine tr_hand fun c i r t => ?_
  -- what is behind the first if: any hand, the slots weaker
  have rest : ∀ c i r t, Tr K [lstC K (handL c i r t)] [] [.bas 0, .d (iD n), .any, .any] E
      (tSeq (tIfS (tTest (tOp rGt (tOp (rIxLT K) (tVar 0) (tC (.int 2))) (tC (.int 0))))
    (tSeq (tAsg (tOp (rIxLT K) (tVar 0) (tC (.int 2))) (gName 3))
    (tSeq (tAsg (tOp rFdiv (tVar 3) (tVar 1)) (gSub (tVar 0) (tC (.int 2)) rSetL))
    (tRet (tOp rMod (tCB rInt1 (tCons (tVar 3) tNil)) (tVar 1)))))
    tNext)
    (tSeq (tAsg (tOp rMod (tCB rInt1 (tCons (tOp rAdd (tOp (rIxLT K) (tVar 0) (tC (.int 3))) (tC (.int 1))) tNil)) (tC (.int 2147483629))) (gSub (tVar 0) (tC (.int 3)) rSetL))
    (tRet (tOp rMod (tCB rInt1 (tCons (tCall (spMix K) [] E0 (tCons (tOp (rIxLT K) (tVar 0) (tC (.int 3))) (tCons (tOp (rIxLT K) (tVar 0) (tC (.int 1))) tNil))) tNil)) (tVar 1)))))
      (fun _ _ _ => False) (fun b v => (∃ c i r t, b = [lstC K (handL c i r t)]) ∧ drR ⟨n, pos, few⟩ v) (fun _ => False) := by
    intro c i r t
    refine tr_seq (tr_if (qt_of (pd_op (pn_hix rfl hl_2) pc_int ro_bl)) (fun _ => ?_) fun _ => tr_next ?_)
    · refine tr_seq (tr_set (pn_hix rfl hl_2) ?_)
      refine tr_seq (tr_setB (T := (· = .d (.int (r.fdiv n)))) (m := 2) (k := 0) rfl rfl rfl (pd_op (pd rfl) (pd rfl) (ro_intC ⟨by omega, by omega⟩)) pc_int fun u e => ⟨_, e, ?_⟩)
      exact tr_ret (pn_modn pos (anyI_of (pd rfl)) (pd rfl)) fun u ⟨k, hk, e⟩ => by rw [e]; exact ⟨trivial, ⟨c, i, r.fdiv n, t, rfl⟩, k, hk, rfl⟩
    · refine tr_seq (tr_setB (T := (· = .d (.int ((t + 1) % 2147483629)))) (m := 3) (k := 0) rfl rfl rfl (pd_op (pn_cb (qa_cons (pd_op (pn_hix rfl hl_3) pc_int ro_int) qa_nil) rc_int1) pc_int (ro_intC (by decide))) pc_int fun u e => ⟨_, e, ?_⟩)
      exact tr_ret (pn_modn pos (pn_mix (pn_hix (c := c) (i := i) (r := r) (t := (t + 1) % 2147483629) rfl hl_3) (pn_hix (c := c) (i := i) (r := r) (t := (t + 1) % 2147483629) rfl hl_1)) (pd rfl)) fun u ⟨k, hk, e⟩ => by rw [e]; exact ⟨trivial, ⟨c, i, r, _, rfl⟩, k, hk, rfl⟩
  refine tr_seq (tr_if (qt_and (a := PyData.eqv (.int r) (.int 0)) (b := decide ((i : Int) < ((c.map PyData.int).length : Int))) (qt_of (pd_op (pn_hix rfl hl_2) pc_int (ro_eq sh_int sh_int))) fun _ => qt_of (pd_op (pn_hix rfl hl_1) (pn_lenD (pn_hix rfl hl_0)) ro_bl)) (fun hb => ?_) fun _ => tr_next (rest c i r t))
  have hi : i < c.length := by
    have h2 := (Bool.and_eq_true_iff.mp hb).2
    have h3 := of_decide_eq_true h2
    rw [List.length_map] at h3
    omega
  refine tr_seq (tr_set (t := .d (.int c[i])) (pd_op (pn_hix rfl hl_0) (pn_hix rfl hl_1) (ro_ixL (atI_nat' (by rw [List.getElem?_map, List.getElem?_eq_getElem hi]; rfl)))) ?_)
  refine tr_seq (tr_setB (T := (· = .d (.int ((i : Int) + 1)))) (m := 1) (k := 0) rfl rfl rfl (pd_op (pn_hix rfl hl_1) pc_int ro_int) pc_int fun u e => ⟨_, e, ?_⟩)
  have e1 : (handL c i r t).set 1 (.int ((i : Int) + 1)) = handL c (i + 1) r t := rfl
  rw [show ([lstC K (handL c i r t)] : List Cell).set 0 (lstC K ((handL c i r t).set 1 (.int ((i : Int) + 1)))) = [lstC K (handL c (i + 1) r t)] from rfl]
  refine tr_seq (tr_if (qt_of (pd_op (pd rfl) (pd_op pc_int pc_int (ro_intC ⟨by decide, by decide, by decide⟩)) ro_bl)) (fun _ => ?_) fun _ => tr_next ?_)
  · exact tr_ret (pn_modn pos (pn_mix (pd_op (pn_cb (qa_cons (pd rfl) qa_nil) rc_int1) pc_int (ro_intC (by decide))) (pn_hix rfl hl_1)) (pd rfl)) fun u ⟨k, hk, e⟩ => by rw [e]; exact ⟨trivial, ⟨c, i + 1, r, t, rfl⟩, k, hk, rfl⟩
  · refine tr_setB (T := (· = .d (.int c[i]))) (m := 2) (k := 0) rfl rfl rfl (pd rfl) pc_int fun u e => ⟨_, e, ?_⟩
    exact tr_wk (Γ' := [.bas 0, .d (iD n), .any, .any]) ⟨.inr rfl, .inr rfl, .inl rfl, .inr rfl, trivial⟩ (rest c (i + 1) c[i] t)
end
end Z
set_option Elab.async false
set_option linter.all false
set_option maxRecDepth 100000
set_option maxHeartbeats 1000000
namespace Z
open PySem PySem.Spec PyProof.Rows L2
open PySem.W (minD AlikeAll)
/-! ### threes one by one -/
def allF (m : Nat) (F : T3 → Bool) : List T3 := (List.range m).flatMap fun p => (List.range m).flatMap fun q => ((List.range m).filter fun r => F (p, q, r)).map fun r => (p, q, r)
theorem allF_eq (m : Nat) (F : T3 → Bool) : allF m F = barL m F := by
  unfold allF barL allT
  rw [List.filter_flatMap]
  congr 1
  funext p
  rw [List.filter_flatMap]
  congr 1
  funext q
  rw [List.filter_map]
  rfl
theorem flat_succ {α : Type} {k : Nat} (f : Nat → List α) : (List.range (k + 1)).flatMap f = (List.range k).flatMap f ++ f k := by
  rw [List.range_succ, List.flatMap_append]
  simp
def isMin (β : List Nat) (t : T3) : Bool := PyData.eqv (minD (tD t) ((readings (bk β) t).tail.map tD)) (tD t)
def classes (β : List Nat) : List T3 := barL β.length (isMin β)
section
variable {P : Program} {w : World} {K : PySem.W.Frag} {bc cs : List Cell} {Γ : List Tv} {E : XK} {N : List Cell → List Cell → List Tv → Prop} {R : List Cell → Rv → Prop} {X : Xv → Prop} {mg : Str → Option Value}
/-! ### _law_hand -/
abbrev HdI : Type := { l : List Int // l.length ≤ 63 }
/-- a list of ints that was handed in -/
def sSq (K : PySem.W.Frag) (l : List Int) : Sm := ⟨fun H v => ∃ a, v = .ref a ∧ SqL K H a (l.map V.int), fun e ⟨a, h1, h2⟩ => ⟨a, h1, sqL_ex e h2⟩⟩
theorem dq_ints {G : Hp} : ∀ l : List Int, DqAll K G (l.map V.int) (l.map PyData.int)
  | [] => .nil
  | i :: l => .cons (.int i) (dq_ints l)
theorem si_sq {te : TE} {l : List Int} (h : Pn K bc cs Γ te (· = .sem (sSq K l))) : Si K bc cs Γ (iSeq K te) (· = l.map .int) := fun M bs ls σ H S R q => .inl (h M bs ls σ H S _ fun t v H1 ht S1 k1 hv => by
  subst ht
  obtain ⟨a, rfl, hs⟩ := hv
  have hl : (l.map PyData.int).length = (l.map V.int).length := by simp
  exact ⟨a, rfl, ⟨_, sqL_ex hid_ex hs⟩, q _ _ H1 _ _ rfl S1 k1 (by rw [hl]; exact walk_list (K := K) (a := a)) (fun H2 e => sqL_ex e hs) (si_walk (dq_ints l))⟩)
theorem si_enumSq {te : TE} {l : List Int} (h : Pn K bc cs Γ te (· = .sem (sSq K l))) : Si K bc cs Γ (iEnumS K te) (· = enD (l.map .int)) := fun M bs ls σ H S R q => .inl (h M bs ls σ H S _ fun t v H1 ht S1 k1 hv => by
  subst ht
  obtain ⟨a, rfl, hs⟩ := hv
  have hl : (enD (l.map PyData.int)).length = (l.map V.int).length := by rw [enD_len]; simp
  exact ⟨a, _, rfl, sqL_ex hid_ex hs, q _ _ H1 _ _ rfl S1 k1 (by rw [hl]; exact walk_enum) (fun H2 e => sqL_ex e hs) (si_pair (dq_ints l))⟩)
abbrev hdTs (K : PySem.W.Frag) : HdI → List Tv := fun x => [.sem (sSq K x.1)]
abbrev hdR : HdI → Rv → Prop := fun _ r => ∃ c i rr t, r = .fr (handL c i rr t)
abbrev spHd (K : PySem.W.Frag) : Sp := Pro K [] (hdTs K) hdR
theorem tr_law_hand (x : HdI) : Trp K [] E (t_law_hand K) 3 (hdTs K) hdR x := by
  obtain ⟨l, hl⟩ := x
  refine tr_seq (tr_set pc_int ?_)
  refine tr_seq (tr_for (si_enumSq (ps rfl)) (fun _ _ b c γ => b = [] ∧ c = [] ∧ ∃ t : Int, Wk γ [.sem (sSq K l), .d (.int t), .any, .any]) (fun _ _ => ⟨rfl, rfl, 0, Wk.refl _⟩) ?_ ?_)
  · rintro ds j d b c γ rfl hd ⟨rfl, rfl, t, hw⟩
    obtain ⟨y, hy, rfl⟩ := enD_get hd
    obtain ⟨z, hz, rfl⟩ := map_at hy
    have hj : j < l.length := (List.getElem?_eq_some_iff.mp hz).1
    refine ⟨_, _, tg_2, tr_wk (wk_set (wk_set hw)) ?_⟩
    refine tr_set (pd_op (pn_cb (qa_cons (pd_op (pd_op (pd rfl) pc_int (ro_intC (.inr ⟨by decide, by decide⟩))) (pd_op (pn_cb (qa_cons (pd rfl) qa_nil) rc_int1) (pd_op (pd rfl) pc_int ro_int) (ro_intC (.inr ⟨by omega, by omega⟩))) ro_int) qa_nil) rc_int1) pc_int (ro_intC (by decide))) ?_
    exact ⟨rfl, rfl, _, ⟨.inr rfl, .inr rfl, .inl rfl, .inl rfl, trivial⟩⟩
  · rintro ds b c γ rfl ⟨rfl, rfl, t, hw⟩
    refine tr_wk hw ?_
    refine tr_retF (T := fun ds => ∃ c i rr t, ds = handL c i rr t) ?_ fun ds ⟨c, i, rr, t, e⟩ => ⟨rfl, c, i, rr, t, by rw [e]⟩
    refine (pf_lstD (ds := handL (l.map fun z => if z < 0 then -z else z) 0 0 t) (qa_cons ?_ (qa_cons pc_int (qa_cons pc_int (qa_cons (pd rfl) qa_nil)))) (by show 4 ≤ 1000; decide)).mono fun ds e => ⟨_, _, _, _, e⟩
    refine (pf_map (ds := l.map .int) (si_sq (ps rfl)) (by rw [List.length_map]; omega) (by simp) rfl fun j d hd => ?_).pd
    obtain ⟨z, hz, rfl⟩ := map_at hd
    exact ⟨_, by rw [List.getElem?_map, List.getElem?_map, hz]; rfl, pn_cb (qa_cons (pn_cb (qa_cons (pd rfl) qa_nil) rc_int1) qa_nil) rc_abs⟩
/-! ### _law_pick -/
structure PkI where
  ds : List PyData
  pos : 1 ≤ ds.length
  few : ds.length ≤ 1000
abbrev pkTs : PkI → List Tv := fun x => [.bas 0, .d (.list x.ds)]
abbrev pkR : PkI → Rv → Prop := fun x r => ∃ d, d ∈ x.ds ∧ r = .tv (.d d)
abbrev spPk (K : PySem.W.Frag) : Sp := Pro K [handC K] pkTs pkR
/-- a draw below n -/
theorem pn_draw {tn : TE} {n : Nat} (h : Γ[0]? = some (.bas 0)) (hn : Pn K [handC K] cs Γ tn (· = .d (iD n))) (pos : 1 ≤ n) (few : n ≤ 1000000000) : Pn K [handC K] cs Γ (tCall (spDr K) [] E (tCons (tVar 0) (tCons tn tNil))) (fun t => ∃ k : Nat, k < n ∧ t = .d (iD k)) :=
  pn_callB (⟨n, pos, few⟩ : DrI) (qa_cons (pb h) (qa_cons hn qa_nil)) (fun t m => by simp at m; rcases m with rfl | rfl <;> trivial) fun r ⟨k, hk, e⟩ => by rw [e]; exact ⟨trivial, k, hk, rfl⟩
theorem tr_pick (x : PkI) : Trp K [handC K] E (t_law_pick K (spDr K)) 0 pkTs pkR x := by
  obtain ⟨ds, pos, few⟩ := x
  refine tr_ret (T := fun t => ∃ d, d ∈ ds ∧ t = .d d) ?_ fun t ⟨d, h, e⟩ => by rw [e]; exact ⟨trivial, rfl, d, h, rfl⟩
  refine pn_op (pd (x := .list ds) rfl) (pn_draw rfl (pn_lenD (pd (x := .list ds) rfl)) pos (by omega)) fun t u e ⟨k, hk, e2⟩ => ?_
  rw [e, e2]
  exact (ro_ixL (atI_nat' (List.getElem?_eq_getElem hk))).mono fun t e => ⟨_, List.getElem_mem hk, e⟩
theorem pn_pick {te : TE} {ds : List PyData} (h : Γ[0]? = some (.bas 0)) (hd : Pn K [handC K] cs Γ te (· = .d (.list ds))) (pos : 1 ≤ ds.length) (few : ds.length ≤ 1000) : Pn K [handC K] cs Γ (tCall (spPk K) [] E (tCons (tVar 0) (tCons te tNil))) (fun t => ∃ d, d ∈ ds ∧ t = .d d) :=
  pn_callB (⟨ds, pos, few⟩ : PkI) (qa_cons (pb h) (qa_cons hd qa_nil)) (fun t m => by simp at m; rcases m with rfl | rfl <;> trivial) fun r ⟨d, hd, e⟩ => by rw [e]; exact ⟨trivial, d, hd, rfl⟩
/-! ### _law_backs -/
structure MnI where
  m : Nat
  lo : 2 ≤ m
  hi : m ≤ 4
abbrev lbTs : MnI → List Tv := fun x => [.bas 0, .d (iD x.m)]
abbrev lbR : MnI → Rv → Prop := fun x r => ∃ β, Bks β ∧ β.length = x.m ∧ r = .tv (.d (.list (isD β)))
abbrev spLb (K : PySem.W.Frag) : Sp := Pro K [handC K] lbTs lbR
structure BkQ (m : Nat) (β left : List Nat) : Prop where
  len : β.length = m
  lt : ∀ i, i < m → bk β i < m
  inv : ∀ i, i < m → bk β (bk β i) = i
  nd : left.Nodup
  own : ∀ x, x ∈ left → x < m ∧ bk β x = x
theorem bk_set {β : List Nat} {i v j : Nat} (h : i < β.length) : bk (β.set i v) j = if j = i then v else bk β j := by
  unfold bk
  rw [List.getD_eq_getElem?_getD, List.getD_eq_getElem?_getD, List.getElem?_set]
  by_cases e : j = i
  · rw [if_pos e.symm, if_pos e, if_pos h]
    rfl
  · rw [if_neg (fun z => e z.symm), if_neg e]
theorem isD_set {l : List Nat} {i v : Nat} : (isD l).set i (iD v) = isD (l.set i v) := by
  unfold isD
  rw [List.map_set]
theorem isD_erase {l : List Nat} {i : Nat} : (isD l).eraseIdx i = isD (l.eraseIdx i) := by
  unfold isD
  induction l generalizing i with
  | nil => rfl
  | cons a l ih =>
    cases i with
    | zero => rfl
    | succ i =>
      show iD a :: (l.map iD).eraseIdx i = iD a :: (l.eraseIdx i).map iD
      rw [ih]
theorem erase_nd {l : List Nat} {i : Nat} (h : l.Nodup) (hi : i < l.length) : (l.eraseIdx i).Nodup ∧ (∀ x, x ∈ l.eraseIdx i → x ∈ l) ∧ l[i] ∉ l.eraseIdx i := by
  refine ⟨h.sublist (List.eraseIdx_sublist l i), fun x m => (List.eraseIdx_sublist l i).subset m, fun m => ?_⟩
  rw [List.mem_eraseIdx_iff_getElem] at m
  obtain ⟨j, hj, hne, e⟩ := m
  exact hne ((List.getElem_inj h).mp e)
theorem rgD_is {m : Nat} : rgD 0 m = isD (List.range m) := by
  unfold rgD isD
  congr 1
  funext i
  rw [Nat.zero_add]
theorem bk_range {m i : Nat} (h : i < m) : bk (List.range m) i = i := by
  unfold bk
  rw [List.getD_eq_getElem?_getD, List.getElem?_range h]
  rfl
theorem tr_law_backs (x : MnI) : Trp K [handC K] E (t_law_backs K (spDr K)) 5 lbTs lbR x := by
  obtain ⟨m, lo, hi⟩ := x
  refine tr_seq (tr_newL (pf_listRg (n := m) (pd rfl) (by omega)) fun ds e => ?_)
  subst e
  refine tr_seq (tr_newL (pf_listRg (n := m) (pd rfl) (by omega)) fun ds e => ?_)
  subst e
  rw [rgD_is]
  have hf : Pn K [handC K] [lstC K (isD (List.range m)), lstC K (isD (List.range m))] [.bas 0, .d (iD m), .cel 0, .cel 1, .any, .any, .any] (tOp rFdiv (tVar 1) (tC (.int 2))) (· = .d (.int ((m / 2 : Nat) : Int))) := by
    have e : Int.fdiv (m : Int) 2 = ((m / 2 : Nat) : Int) := by
      rw [Int.fdiv_eq_ediv_of_nonneg _ (by decide)]
      omega
    rw [← e]
    exact pd_op (pd (x := iD m) rfl) pc_int (ro_intC ⟨by decide, by decide⟩)
  refine tr_seq (tr_for (si_rng1 (n := m / 2) hf (by omega)) (fun _ i b c γ => b = [handC K] ∧ Wk γ [.bas 0, .d (iD m), .cel 0, .cel 1, .any, .any, .any] ∧ ∃ β left, c = [lstC K (isD β), lstC K (isD left)] ∧ BkQ m β left ∧ m ≤ left.length + 2 * i ∧ left.length ≤ m)
    (fun _ _ => ⟨rfl, Wk.refl _, List.range m, List.range m, rfl, ⟨by simp, fun i h => by rw [bk_range h]; exact h, fun i h => by rw [bk_range h, bk_range h], List.nodup_range, fun x h => ⟨List.mem_range.mp h, bk_range (List.mem_range.mp h)⟩⟩, by simp, by simp⟩) ?_ ?_)
  · rintro ds i d b c γ rfl hd ⟨rfl, hw, β, left, rfl, hp, h1, h2⟩
    obtain ⟨hi2, rfl⟩ := rgD_get hd
    have hll : 2 ≤ left.length := by omega
    refine ⟨_, _, tg_name, tr_wk (wk_set hw) ?_⟩
    refine tr_ifG (B := fun _ => True) (qt_any (pn_op (pn_draw rfl (pc_int (i := 3)) (by decide) (by decide)) pc_int fun t u ⟨k, _, e⟩ e2 => by rw [e, e2]; exact (ro_eq sh_int sh_int).mono fun z ez => ⟨_, trivial, ez⟩)) (fun _ => ?_) fun _ => tr_next ⟨rfl, ⟨.inr rfl, .inr rfl, .inr rfl, .inr rfl, .inl rfl, .inr rfl, .inr rfl, trivial⟩, β, left, rfl, hp, by omega, h2⟩
    have e1 := @isD_len left
    refine tr_seq (tr_popAt (I := fun n => n < left.length) (k := 1) rfl rfl (by rw [e1]; omega) ((pn_draw (n := left.length) rfl (by rw [← e1]; exact pn_lenL (pc rfl) (.c 1 _ rfl)) (by omega) (by omega)).mono fun t ⟨k, hk, e⟩ => ⟨k, hk, e⟩) fun n hn => ⟨iD (bk left n), isD_at hn, ?_⟩)
    rw [isD_erase]
    have e2 := @isD_len (left.eraseIdx n)
    have e3 : (left.eraseIdx n).length = left.length - 1 := List.length_eraseIdx_of_lt hn
    refine tr_seq (tr_popAt (I := fun n' => n' < (left.eraseIdx n).length) (k := 1) rfl rfl (by rw [e2]; omega) ((pn_draw (n := (left.eraseIdx n).length) rfl (by rw [← e2]; exact pn_lenL (pc rfl) (.c 1 _ rfl)) (by omega) (by omega)).mono fun t ⟨k, hk, e⟩ => ⟨k, hk, e⟩) fun n' hn' => ⟨iD (bk (left.eraseIdx n) n'), isD_at hn', ?_⟩)
    rw [isD_erase]
    have c1 := erase_nd hp.nd hn
    have c2 := erase_nd c1.1 hn'
    have m1 : bk left n ∈ left := bk_mem hn
    have m2 : bk (left.eraseIdx n) n' ∈ left.eraseIdx n := bk_mem hn'
    have ne : bk left n ≠ bk (left.eraseIdx n) n' := fun e => c1.2.2 (by
      have : left[n] = bk left n := by
        unfold bk
        rw [List.getD_eq_getElem?_getD, List.getElem?_eq_getElem hn]
        rfl
      rw [this, e]
      exact m2)
    have o1 := hp.own _ m1
    have o2 := hp.own _ (c1.2.1 _ m2)
    have nl : (isD β).length = m := by rw [isD_len, hp.len]
    refine tr_seq (tr_setC (T := (· = .d (iD (bk (left.eraseIdx n) n')))) (m := bk left n) (k := 0) rfl rfl (ixN_nat (by rw [nl]; exact o1.1)) (pd rfl) (pd rfl) fun u e => ⟨_, e, ?_⟩)
    rw [isD_set]
    refine tr_setC (T := (· = .d (iD (bk left n)))) (m := bk (left.eraseIdx n) n') (k := 0) rfl rfl (ixN_nat (by rw [isD_len, List.length_set, hp.len]; exact o2.1)) (pd rfl) (pd rfl) fun u e => ⟨_, e, ?_⟩
    rw [isD_set]
    refine ⟨rfl, ⟨.inr rfl, .inr rfl, .inr rfl, .inr rfl, .inl rfl, .inl rfl, .inl rfl, trivial⟩, _, _, rfl, ?_, ?_, ?_⟩
    · have s1 : bk left n < β.length := by rw [hp.len]; exact o1.1
      have s2 : bk (left.eraseIdx n) n' < (β.set (bk left n) (bk (left.eraseIdx n) n')).length := by rw [List.length_set, hp.len]; exact o2.1
      generalize ha : bk left n = a at *
      generalize hb : bk (left.eraseIdx n) n' = bb at *
      have key : ∀ j, bk ((β.set a bb).set bb a) j = if j = bb then a else if j = a then bb else bk β j := fun j => by
        rw [bk_set s2]
        by_cases q : j = bb
        · rw [if_pos q, if_pos q]
        · rw [if_neg q, if_neg q, bk_set s1]
      refine ⟨by simp [hp.len], fun j hj => ?_, fun j hj => ?_, c2.1, fun x hx => ?_⟩
      · rw [key]
        split
        · exact o1.1
        · split
          · exact o2.1
          · exact hp.lt j hj
      · rw [key j]
        by_cases q1 : j = bb
        · rw [if_pos q1, key a, if_neg ne, if_pos rfl, q1]
        · rw [if_neg q1]
          by_cases q2 : j = a
          · rw [if_pos q2, key bb, if_pos rfl, q2]
          · rw [if_neg q2, key]
            have n1 : bk β j ≠ bb := fun e => q1 (by
              have := hp.inv j hj
              rw [e, o2.2] at this
              exact this.symm)
            have n2 : bk β j ≠ a := fun e => q2 (by
              have := hp.inv j hj
              rw [e, o1.2] at this
              exact this.symm)
            rw [if_neg n1, if_neg n2, hp.inv j hj]
      · have hx1 := c2.2.1 x hx
        have hx2 := c1.2.1 x hx1
        have n1 : x ≠ bb := fun e => c2.2.2 (by
          have : (left.eraseIdx n)[n'] = bb := by
            rw [← hb]
            unfold bk
            rw [List.getD_eq_getElem?_getD, List.getElem?_eq_getElem hn']
            rfl
          rw [this, ← e]
          exact hx)
        have n2 : x ≠ a := fun e => c1.2.2 (by
          have : left[n] = a := by
            rw [← ha]
            unfold bk
            rw [List.getD_eq_getElem?_getD, List.getElem?_eq_getElem hn]
            rfl
          rw [this, ← e]
          exact hx1)
        rw [key, if_neg n1, if_neg n2]
        exact hp.own x hx2
    · rw [List.length_eraseIdx_of_lt hn', e3]
      omega
    · rw [List.length_eraseIdx_of_lt hn', e3]
      omega
  · rintro ds b c γ rfl ⟨rfl, hw, β, left, rfl, hp, _, _⟩
    exact tr_wk hw (tr_retC rfl rfl ⟨rfl, β, ⟨by rw [hp.len]; exact lo, by rw [hp.len]; exact hi, fun i h => by rw [hp.len] at h ⊢; exact hp.lt i h, fun i h => hp.inv i (by rw [← hp.len]; exact h)⟩, hp.len, rfl⟩)
/-! ### _law_readings -/
abbrev lrTs : ThI → List Tv := fun x => [.d (.list (isD x.β)), .d (iD x.t.1), .d (iD x.t.2.1), .d (iD x.t.2.2)]
abbrev lrR : ThI → Rv → Prop := fun x r => r = .fr ((readings (bk x.β) x.t).map tD)
abbrev spLr (K : PySem.W.Frag) : Sp := Pro K [] lrTs lrR
theorem tr_law_readings (x : ThI) : Trp K [] E (t_law_readings K) 0 lrTs lrR x := by
  obtain ⟨β, ⟨p, q, r⟩, bl, h1, h2, h3⟩ := x
  refine tr_retF (T := (· = (readings (bk β) (p, q, r)).map tD)) ?_ fun ds e => ⟨rfl, by rw [e]⟩
  have ix : ∀ {i : Nat} {n : Nat}, n < β.length → ([Tv.d (.list (isD β)), .d (iD p), .d (iD q), .d (iD r)] : List Tv)[i]? = some (.d (iD n)) → Pn K [] [] [Tv.d (.list (isD β)), .d (iD p), .d (iD q), .d (iD r)] (tOp (rIxLT K) (tVar 0) (tVar i)) (· = .d (iD (bk β n))) := by
    intro i n hn hi
    exact pd_op (pd rfl) (pd hi) (ro_ixL (isD_atI hn))
  refine pf_lstD (qa_cons (pn_t3 (pd rfl) (pd rfl) (pd rfl)) (qa_cons (pn_t3 (pd rfl) (ix h2 rfl) (pd rfl)) (qa_cons (pn_t3 (ix h1 rfl) (pd rfl) (pd rfl)) (qa_cons (pn_t3 (pd rfl) (ix h3 rfl) (ix h1 rfl)) (qa_cons (pn_t3 (ix h3 rfl) (pd rfl) (ix h2 rfl)) (qa_cons (pn_t3 (ix h2 rfl) (ix h1 rfl) (ix h3 rfl)) qa_nil)))))) (by show 6 ≤ 1000; decide)
theorem pf_readings {ta tp tq tr : TE} {β : List Nat} {t : T3} (bl : Bks β) (ht : In3 β.length t) (ha : Pn K bc cs Γ ta (· = .d (.list (isD β)))) (hp : Pn K bc cs Γ tp (· = .d (iD t.1))) (hq : Pn K bc cs Γ tq (· = .d (iD t.2.1))) (hr : Pn K bc cs Γ tr (· = .d (iD t.2.2))) :
    Pf K bc cs Γ (tCall (spLr K) [] E (tCons ta (tCons tp (tCons tq (tCons tr tNil))))) (· = (readings (bk β) t).map tD) :=
  pf_call (⟨β, t, bl, ht⟩ : ThI) (qa_cons ha (qa_cons hp (qa_cons hq (qa_cons hr qa_nil)))) (fun t m => by simp at m; rcases m with rfl | rfl | rfl | rfl <;> trivial) fun r e => ⟨_, e, rfl⟩
end
end Z
set_option Elab.async false
set_option linter.all false
set_option maxRecDepth 100000
set_option maxHeartbeats 1000000
namespace Z
open PySem PySem.Spec PyProof.Rows L2
open PySem.W (minD AlikeAll dataLt)
/-! ### the least of its class -/
theorem minD_spec : ∀ (l : List T3) (t0 : T3), ∃ t, minD (tD t0) (l.map tD) = tD t ∧ t ∈ t0 :: l ∧ ∀ u, u ∈ t0 :: l → ¬ ltT u t := by
  intro l
  induction l with
  | nil => intro t0; exact ⟨t0, rfl, List.mem_cons_self, fun u hu => by rw [List.mem_singleton.mp hu]; exact ltT_irr _⟩
  | cons a l ih =>
    intro t0
    have e : minD (tD t0) ((a :: l).map tD) = minD (tD (if ltT a t0 then a else t0)) (l.map tD) := by
      show minD (if dataLt (tD a) (tD t0) = true then tD a else tD t0) (l.map tD) = _
      rw [dataLt_t]
      by_cases q : ltT a t0
      · rw [if_pos (decide_eq_true q), if_pos q]
      · rw [if_neg (by rw [decide_eq_false q]; exact Bool.false_ne_true), if_neg q]
    obtain ⟨t, h1, h2, h3⟩ := ih (if ltT a t0 then a else t0)
    refine ⟨t, e.trans h1, ?_, fun u hu => ?_⟩
    · rcases List.mem_cons.mp h2 with q | q
      · rw [q]
        split <;> simp
      · exact List.mem_cons_of_mem _ (List.mem_cons_of_mem _ q)
    · have h0 := h3 _ List.mem_cons_self
      rcases List.mem_cons.mp hu with q | q
      · rw [q]
        by_cases c : ltT a t0
        · rw [if_pos c] at h0
          exact fun z => h0 (ltT_trans c z)
        · rwa [if_neg c] at h0
      · rcases List.mem_cons.mp q with q | q
        · rw [q]
          by_cases c : ltT a t0
          · rwa [if_pos c] at h0
          · rw [if_neg c] at h0
            intro z
            by_cases c2 : ltT t0 a
            · exact h0 (ltT_trans c2 z)
            · rw [ltT_tot c2 c] at h0
              exact h0 z
        · exact h3 u (List.mem_cons_of_mem _ q)
theorem rd_tail (b : Nat → Nat) (t : T3) : readings b t = t :: (readings b t).tail := rfl
theorem class_of {β : List Nat} (bl : Bks β) {t : T3} (ht : In3 β.length t) : ∃ x, x ∈ classes β ∧ t ∈ readings (bk β) x ∧ In3 β.length x := by
  obtain ⟨v, e1, m1, n1⟩ := minD_spec (readings (bk β) t).tail t
  rw [← rd_tail] at m1 n1
  have hv := rd_in bl ht m1
  have hs := rd_same bl ht m1
  obtain ⟨w, e2, m2, n2⟩ := minD_spec (readings (bk β) v).tail v
  rw [← rd_tail] at m2 n2
  have e : w = v := ltT_tot (n1 w ((hs w).mp m2)) (n2 v (rd_self _ _))
  refine ⟨v, ?_, rd_symm bl ht m1, hv⟩
  unfold classes barL
  rw [List.mem_filter, mem_allT]
  refine ⟨hv, ?_⟩
  unfold isMin
  rw [e2, e]
  exact eqv_self (nb_t v)
theorem class_in {β : List Nat} {x : T3} (h : x ∈ classes β) : In3 β.length x := mem_allT.mp (List.mem_filter.mp h).1
/-- whole classes -/
def Clsd (β : List Nat) (B : T3 → Bool) : Prop := ∀ t, In3 β.length t → ∀ u, u ∈ readings (bk β) t → B u = B t
theorem clo_clsd {β : List Nat} (bl : Bks β) {L : List T3} (hL : ∀ t, t ∈ L → In3 β.length t) : Clsd β (clo (bk β) L) := fun t ht u hu => by
  have key : ∀ {a b : T3}, In3 β.length a → b ∈ readings (bk β) a → clo (bk β) L b = true → clo (bk β) L a = true := by
    intro a b ha hab h
    obtain ⟨x, hx, hb⟩ := clo_iff.mp h
    refine clo_iff.mpr ⟨x, hx, ?_⟩
    have hxin := hL x hx
    have h1 := rd_same bl hxin hb
    exact (h1 a).mp (rd_symm bl ha hab)
  cases q : clo (bk β) L t with
  | true => exact key (rd_in bl ht hu) (rd_symm bl ht hu) q
  | false =>
    cases q2 : clo (bk β) L u with
    | false => rfl
    | true =>
      rw [key ht hu q2] at q
      cases q
section
variable {P : Program} {w : World} {K : PySem.W.Frag} {bc cs : List Cell} {Γ : List Tv} {E : XK} {N : List Cell → List Cell → List Tv → Prop} {R : List Cell → Rv → Prop} {X : Xv → Prop} {mg : Str → Option Value}
/-! ### _law_classes -/
abbrev lcTs : BksI → List Tv := fun x => [.d (.list (isD x.1))]
abbrev lcR : BksI → Rv → Prop := fun x r => r = .tv (.d (.list ((classes x.1).map tD)))
abbrev spLc (K : PySem.W.Frag) : Sp := Pro K [] lcTs lcR
theorem rd_alike (b : Nat → Nat) (t : T3) : AlikeAll (tD t :: (readings b t).tail.map tD) := by
  have h := ts_alike (readings b t)
  refine ⟨fun x hx y hy => h x hx y hy, fun x hx => ?_⟩
  have hx' : x ∈ (readings b t).map tD := hx
  obtain ⟨u, _, rfl⟩ := tDs_mem hx'
  exact fun e => by cases e
theorem rd_depth (b : Nat → Nat) (t : T3) : PyData.depthAll (tD t :: (readings b t).tail.map tD) ≤ 10 := by
  have := (fl_all (n := 1) (ds := (readings b t).map tD) fun d hd => by
    obtain ⟨u, _, rfl⟩ := tDs_mem hd
    exact fl_t u).2
  exact Nat.le_trans this (by decide)
theorem filt_succ {k : Nat} {F : Nat → Bool} : (List.range (k + 1)).filter F = (List.range k).filter F ++ (if F k then [k] else []) := by
  rw [List.range_succ, List.filter_append]
  cases h : F k <;> simp [h]
theorem len_flat {k m c : Nat} {f : Nat → List T3} (h : ∀ i, (f i).length ≤ c) : ((List.range k).flatMap f).length ≤ k * c := by
  induction k with
  | zero => simp
  | succ k ih =>
    rw [flat_succ, List.length_append, Nat.succ_mul]
    have := h k
    omega
def rowF (m : Nat) (F : T3 → Bool) (p q : Nat) : List T3 := ((List.range m).filter fun r => F (p, q, r)).map fun r => (p, q, r)
theorem rowF_len {m : Nat} {F : T3 → Bool} {p q : Nat} : (rowF m F p q).length ≤ m := by
  unfold rowF
  rw [List.length_map]
  have := List.length_filter_le (fun r => F (p, q, r)) (List.range m)
  rwa [List.length_range] at this
theorem tr_law_classes (x : BksI) : Trp K [] E (t_law_classes K (spLr K)) 5 lcTs lcR x := by
  obtain ⟨β, bl⟩ := x
  have hm := bl.hi
  have hl := @isD_len β
  let m := β.length
  refine tr_seq (tr_set (t := .d (iD β.length)) (by rw [← hl]; exact pn_lenD (pd rfl)) ?_)
  refine tr_seq (tr_newL (pf_lstD (ds := []) qa_nil (by decide)) fun ds e => ?_)
  subst e
  have hz : β.length ≤ 1000000 := by omega
  refine tr_seq (tr_for (si_rng1 (pd rfl) hz) (fun _ p b c γ => b = [] ∧ Wk γ [.d (.list (isD β)), .d (iD β.length), .cel 0, .any, .any, .any] ∧ p ≤ β.length ∧ c = [lstC K (((List.range p).flatMap fun p => (List.range β.length).flatMap fun q => rowF β.length (isMin β) p q).map tD)])
    (fun _ _ => ⟨rfl, Wk.refl _, Nat.zero_le _, rfl⟩) ?_ ?_)
  · rintro ds p d b c γ rfl hd ⟨rfl, hw, hp', rfl⟩
    obtain ⟨hp, rfl⟩ := rgD_get hd
    rw [Nat.zero_add]
    refine ⟨_, _, tg_name, tr_wk (wk_set hw) ?_⟩
    refine tr_for (si_rng1 (pd rfl) hz) (fun _ q b c γ => b = [] ∧ Wk γ [.d (.list (isD β)), .d (iD β.length), .cel 0, .d (iD p), .any, .any] ∧ q ≤ β.length ∧ c = [lstC K (((List.range p).flatMap fun p => (List.range β.length).flatMap fun q => rowF β.length (isMin β) p q).map tD ++ ((List.range q).flatMap fun q => rowF β.length (isMin β) p q).map tD)])
      (fun _ _ => ⟨rfl, ⟨.inr rfl, .inr rfl, .inr rfl, .inr rfl, .inr rfl, .inr rfl, trivial⟩, Nat.zero_le _, by simp⟩) ?_ ?_
    · rintro ds q d b c γ rfl hd ⟨rfl, hw, hq', rfl⟩
      obtain ⟨hq, rfl⟩ := rgD_get hd
      rw [Nat.zero_add]
      refine ⟨_, _, tg_name, tr_wk (wk_set hw) ?_⟩
      refine tr_for (si_rng1 (pd rfl) hz) (fun _ r b c γ => b = [] ∧ Wk γ [.d (.list (isD β)), .d (iD β.length), .cel 0, .d (iD p), .d (iD q), .any] ∧ r ≤ β.length ∧ c = [lstC K (((List.range p).flatMap fun p => (List.range β.length).flatMap fun q => rowF β.length (isMin β) p q).map tD ++ ((List.range q).flatMap fun q => rowF β.length (isMin β) p q).map tD ++ (((List.range r).filter fun r => isMin β (p, q, r)).map fun r => ((p, q, r) : T3)).map tD)])
        (fun _ _ => ⟨rfl, ⟨.inr rfl, .inr rfl, .inr rfl, .inr rfl, .inr rfl, .inr rfl, trivial⟩, Nat.zero_le _, by simp⟩) ?_ ?_
      · rintro ds r d b c γ rfl hd ⟨rfl, hw, hr', rfl⟩
        obtain ⟨hr, rfl⟩ := rgD_get hd
        rw [Nat.zero_add]
        refine ⟨_, _, tg_name, tr_wk (wk_set hw) ?_⟩
        have hin : In3 β.length (p, q, r) := ⟨hp, hq, hr⟩
        obtain ⟨v, ev, mv, nv⟩ := minD_spec (readings (bk β) (p, q, r)).tail (p, q, r)
        have hz2 : (((List.range p).flatMap fun p => (List.range β.length).flatMap fun q => rowF β.length (isMin β) p q).map tD ++ ((List.range q).flatMap fun q => rowF β.length (isMin β) p q).map tD ++ (((List.range r).filter fun r => isMin β (p, q, r)).map fun r => ((p, q, r) : T3)).map tD).length ≤ 1000 := by
          simp only [List.length_append, List.length_map]
          have a1 := len_flat (k := p) (m := 0) (c := 16) (f := fun p => (List.range β.length).flatMap fun q => rowF β.length (isMin β) p q) fun i => Nat.le_trans (len_flat (m := 0) (c := 4) fun j => Nat.le_trans rowF_len hm) (by omega)
          have a2 := len_flat (k := q) (m := 0) (c := 4) (f := fun q => rowF β.length (isMin β) p q) fun j => Nat.le_trans rowF_len hm
          have a3 := List.length_filter_le (fun r => isMin β (p, q, r)) (List.range r)
          rw [List.length_range] at a3
          omega
        refine tr_if (qt_of (pd_op (pn_minD (d := tD (p, q, r)) (ds := (readings (bk β) (p, q, r)).tail.map tD) (pf_readings bl hin (pd rfl) (pd rfl) (pd rfl) (pd rfl)) (rd_alike _ _) (rd_depth _ _)) (pn_t3 (pd rfl) (pd rfl) (pd rfl)) (ro_eq (by rw [ev]; exact (fl_t v).sh (by decide)) ((fl_t _).sh (by decide))))) (fun hb => ?_) fun hb => tr_next ?_
        · have hb' : isMin β (p, q, r) = true := hb
          refine tr_append (T := (· = .d (tD (p, q, r)))) (k := 0) rfl rfl hz2 (pn_t3 (pd rfl) (pd rfl) (pd rfl)) fun t e => ⟨_, e, rfl, ⟨.inr rfl, .inr rfl, .inr rfl, .inr rfl, .inr rfl, .inl rfl, trivial⟩, hr, ?_⟩
          rw [filt_succ, hb']
          simp
        · have hb' : isMin β (p, q, r) = false := hb
          refine ⟨rfl, ⟨.inr rfl, .inr rfl, .inr rfl, .inr rfl, .inr rfl, .inl rfl, trivial⟩, hr, ?_⟩
          rw [filt_succ, hb']
          simp
      · rintro ds b c γ rfl ⟨rfl, hw, _, rfl⟩
        rw [rgD_len]
        refine ⟨rfl, wk_trans hw ⟨.inr rfl, .inr rfl, .inr rfl, .inr rfl, .inl rfl, .inl rfl, trivial⟩, hq, ?_⟩
        rw [flat_succ]
        simp [rowF]
    · rintro ds b c γ rfl ⟨rfl, hw, _, rfl⟩
      rw [rgD_len]
      refine ⟨rfl, wk_trans hw ⟨.inr rfl, .inr rfl, .inr rfl, .inl rfl, .inl rfl, .inl rfl, trivial⟩, hp, ?_⟩
      rw [flat_succ]
      simp
  · rintro ds b c γ rfl ⟨rfl, hw, _, rfl⟩
    rw [rgD_len]
    refine tr_wk hw (tr_retC rfl rfl ⟨rfl, ?_⟩)
    have : classes β = (List.range β.length).flatMap fun p => (List.range β.length).flatMap fun q => rowF β.length (isMin β) p q := (allF_eq _ _).symm
    show Rv.tv _ = Rv.tv (.d (.list ((classes β).map tD)))
    rw [this]
/-! ### _law_barred -/
structure WoI where
  β : List Nat
  B : T3 → Bool
  bl : Bks β
  cl : Clsd β B
abbrev baTs : WoI → List Tv := fun x => [.d (worldD x.β x.B)]
abbrev baR : WoI → Rv → Prop := fun x r => r = .tv (.d (.list (barD x.β.length x.B)))
abbrev spBa (K : PySem.W.Frag) : Sp := Pro K [] baTs baR
theorem w_0 {β : List Nat} {B : T3 → Bool} : atI [PyData.list (isD β), letD β.length B] (0 : Int) = some (.list (isD β)) := rfl
theorem w_1 {β : List Nat} {B : T3 → Bool} : atI [PyData.list (isD β), letD β.length B] (1 : Int) = some (letD β.length B) := rfl
/-- let[p][q][r] -/
theorem pn_let {tl tp tq tr : TE} {m : Nat} {B : T3 → Bool} {t : T3} (ht : In3 m t) (hl : Pn K bc cs Γ tl (· = .d (letD m B))) (hp : Pn K bc cs Γ tp (· = .d (iD t.1))) (hq : Pn K bc cs Γ tq (· = .d (iD t.2.1))) (hr : Pn K bc cs Γ tr (· = .d (iD t.2.2))) :
    Pn K bc cs Γ (tOp (rIxLT K) (tOp (rIxLT K) (tOp (rIxLT K) tl tp) tq) tr) (· = .d (.bool (!B t))) :=
  pd_op (pd_op (pd_op hl hp (ro_ixL (atI_nat' (range_map_at ht.1)))) hq (ro_ixL (atI_nat' (range_map_at ht.2.1)))) hr (ro_ixL (atI_nat' (range_map_at ht.2.2)))
theorem tr_law_barred (x : WoI) : Trp K [] E (t_law_barred K) 5 baTs baR x := by
  obtain ⟨β, B, bl, cl⟩ := x
  have hm := bl.hi
  have hl := @isD_len β
  have hz : β.length ≤ 1000000 := by omega
  refine tr_seq (tr_set (t := .d (iD β.length)) (by rw [← hl]; exact pn_lenD (pd_op (pd rfl) pc_int (ro_ixT w_0))) ?_)
  refine tr_seq (tr_set (t := .sem (sLst K [])) (pf_lstD (ds := []) qa_nil (by decide)).psd ?_)
  refine tr_seq (tr_for (si_rng1 (pd rfl) hz) (fun _ p b c γ => b = [] ∧ c = [] ∧ p ≤ β.length ∧ Wk γ [.d (worldD β B), .d (iD β.length), .sem (sLst K (((List.range p).flatMap fun p => (List.range β.length).flatMap fun q => rowF β.length B p q).map tD)), .any, .any, .any])
    (fun _ _ => ⟨rfl, rfl, Nat.zero_le _, Wk.refl _⟩) ?_ ?_)
  · rintro ds p d b c γ rfl hd ⟨rfl, rfl, hp', hw⟩
    obtain ⟨hp, rfl⟩ := rgD_get hd
    rw [Nat.zero_add]
    refine ⟨_, _, tg_name, tr_wk (wk_set hw) ?_⟩
    refine tr_for (si_rng1 (pd rfl) hz) (fun _ q b c γ => b = [] ∧ c = [] ∧ q ≤ β.length ∧ Wk γ [.d (worldD β B), .d (iD β.length), .sem (sLst K (((List.range p).flatMap fun p => (List.range β.length).flatMap fun q => rowF β.length B p q).map tD ++ ((List.range q).flatMap fun q => rowF β.length B p q).map tD)), .d (iD p), .any, .any])
      (fun _ _ => ⟨rfl, rfl, Nat.zero_le _, by simp only [List.range_zero, List.flatMap_nil, List.map_nil, List.append_nil]; exact ⟨.inr rfl, .inr rfl, .inr rfl, .inr rfl, .inr rfl, .inr rfl, trivial⟩⟩) ?_ ?_
    · rintro ds q d b c γ rfl hd ⟨rfl, rfl, hq', hw⟩
      obtain ⟨hq, rfl⟩ := rgD_get hd
      rw [Nat.zero_add]
      refine ⟨_, _, tg_name, tr_wk (wk_set hw) ?_⟩
      have a1 := len_flat (k := p) (m := 0) (c := 16) (f := fun p => (List.range β.length).flatMap fun q => rowF β.length B p q) fun i => Nat.le_trans (len_flat (m := 0) (c := 4) fun j => Nat.le_trans rowF_len hm) (by omega)
      have a2 := len_flat (k := q) (m := 0) (c := 4) (f := fun q => rowF β.length B p q) fun j => Nat.le_trans rowF_len hm
      have a3 := rowF_len (m := β.length) (F := B) (p := p) (q := q)
      refine tr_set (t := .sem (sLst K (((List.range p).flatMap fun p => (List.range β.length).flatMap fun q => rowF β.length B p q).map tD ++ ((List.range q).flatMap fun q => rowF β.length B p q).map tD ++ (rowF β.length B p q).map tD))) (pf_cat (ps rfl) (Pf.psd ?_) (.s _) (.s _) (by simp only [List.length_append, List.length_map]; omega)).psd ⟨rfl, rfl, hq, ?_⟩
      · refine pf_lc (T := (· = rgD 0 β.length)) (si_rng1 (pd rfl) hz) (fun _ r acc => acc = (((List.range r).filter fun r => B (p, q, r)).map fun r => ((p, q, r) : T3)).map tD ∧ r ≤ β.length) (fun _ _ => ⟨rfl, Nat.zero_le _⟩) (fun ds r acc _ a => ?_) ?_ ?_
        · rw [a.1, List.length_map, List.length_map]
          have := List.length_filter_le (fun r => B (p, q, r)) (List.range r)
          rw [List.length_range] at this
          omega
        · rintro ds r d rfl hr
          obtain ⟨hr2, rfl⟩ := rgD_get hr
          rw [Nat.zero_add]
          refine ⟨_, _, tg_name, fun x hx => hx, (· = !(!B (p, q, r))), qt_not (qt_B (pn_let (t := (p, q, r)) ⟨hp, hq, hr2⟩ (pd_op (pd (x := worldD β B) rfl) pc_int (ro_ixT w_1)) (pd rfl) (pd rfl) (pd rfl))), fun hb => ?_, fun hb acc a => ⟨?_, hr2⟩⟩
          · refine (pn_t3 (pd (x := iD p) rfl) (pd (x := iD q) rfl) (pd (x := iD r) rfl)).mono fun t e => ⟨_, e, fun acc a => ⟨?_, hr2⟩⟩
            have hb' : B (p, q, r) = true := by simpa using hb.symm
            rw [a.1, filt_succ, hb']
            simp
          · have hb' : B (p, q, r) = false := by simpa using hb.symm
            rw [a.1, filt_succ, hb']
            simp
        · rintro ds acc rfl ⟨e, _⟩
          rw [e, rgD_len]
          rfl
      · rw [flat_succ, List.map_append, ← List.append_assoc]
        exact ⟨.inr rfl, .inr rfl, .inr rfl, .inr rfl, .inl rfl, .inl rfl, trivial⟩
    · rintro ds b c γ rfl ⟨rfl, rfl, _, hw⟩
      rw [rgD_len] at hw
      refine ⟨rfl, rfl, hp, wk_trans hw ?_⟩
      rw [flat_succ, List.map_append]
      exact ⟨.inr rfl, .inr rfl, .inr rfl, .inl rfl, .inl rfl, .inl rfl, trivial⟩
  · rintro ds b c γ rfl ⟨rfl, rfl, _, hw⟩
    rw [rgD_len] at hw
    refine tr_wk hw (tr_retD (pl rfl) ⟨rfl, ?_⟩)
    have : barL β.length B = (List.range β.length).flatMap fun p => (List.range β.length).flatMap fun q => rowF β.length B p q := (allF_eq _ _).symm
    show _ = Rv.tv (.d (.list ((barL β.length B).map tD)))
    rw [this]
end
end Z
set_option Elab.async false
set_option linter.all false
set_option maxRecDepth 100000
set_option maxHeartbeats 1000000
namespace Z
open PySem PySem.Spec PyProof.Rows L2
section
variable {P : Program} {w : World} {K : PySem.W.Frag} {bc cs : List Cell} {Γ : List Tv} {E : XK} {N : List Cell → List Cell → List Tv → Prop} {R : List Cell → Rv → Prop} {X : Xv → Prop} {mg : Str → Option Value}
/-! ### _law_let: its promise (the walk lies in V5) -/
abbrev ltTs : ThsI → List Tv := fun x => [.d (.list (isD x.β)), .d (.list (x.l.map tD))]
abbrev ltR : ThsI → Rv → Prop := fun x r => r = .tv (.d (letD x.β.length (clo (bk x.β) x.l)))
abbrev spLt (K : PySem.W.Frag) : Sp := Pro K [] ltTs ltR
/-! ### _law_any_world -/
abbrev awR : MnI → Rv → Prop := fun x r => ∃ β B, Bks β ∧ β.length = x.m ∧ Clsd β B ∧ r = .tv (.d (worldD β B))
abbrev spAw (K : PySem.W.Frag) : Sp := Pro K [handC K] lbTs awR
theorem pn_isZero {te : TE} {n : Nat} (h : Pn K bc cs Γ te (fun t => ∃ k : Nat, k < n ∧ t = .d (iD k))) : Pn K bc cs Γ (tOp (rEqD K) te (tC (.int 0))) (fun t => ∃ b, True ∧ t = .d (.bool b)) :=
  pn_op h pc_int fun t u ⟨k, _, e⟩ e2 => by rw [e, e2]; exact (ro_eq sh_int sh_int).mono fun z ez => ⟨_, trivial, ez⟩
/-- [three for three in classes if a draw is 0] -/
theorem pf_someClasses {te tn : TE} {β : List Nat} {n i : Nat} (bl : Bks β) (h0 : (wipeT Γ [i]) = Γ) (hΓ : ∀ t, (Γ.set i t)[0]? = some (.bas 0)) (hi : ∀ t, (Γ.set i t)[i]? = some t) (pos : 1 ≤ n) (few : n ≤ 1000000000)
    (h : Pn K [handC K] cs Γ te (· = .d (.list ((classes β).map tD)))) (hn : ∀ t, Pn K [handC K] cs (Γ.set i t) tn (· = .d (iD n))) :
    Pf K [handC K] cs Γ (tLc (iSeq K te) (gName i) (tTest (tOp (rEqD K) (tCall (spDr K) [] E (tCons (tVar 0) (tCons tn tNil))) (tC (.int 0)))) (tVar i) [i]) (fun ds => ∃ L : List T3, ds = L.map tD ∧ L.length ≤ 64 ∧ ∀ t, t ∈ L → In3 β.length t) := by
  have hcl : (classes β).length ≤ 64 := Nat.le_trans (List.length_filter_le _ _) (all_len bl.hi)
  refine pf_lc (T := (· = (classes β).map tD)) (si_seqL h) (fun _ j acc => j ≤ (classes β).length ∧ ∃ L : List T3, acc = L.map tD ∧ L.length ≤ j ∧ ∀ t, t ∈ L → In3 β.length t) (fun _ _ => ⟨Nat.zero_le _, [], rfl, Nat.le_refl _, fun t m => by cases m⟩) (fun ds j acc _ ⟨a, L, e, l, _⟩ => by rw [e, List.length_map]; omega) ?_ ?_
  · rintro ds j d rfl hd
    obtain ⟨t, ht, rfl⟩ := ts_at hd
    have hj : j < (classes β).length := (List.getElem?_eq_some_iff.mp ht).1
    have hin := class_in (List.mem_of_getElem? ht)
    rw [h0]
    refine ⟨_, _, tg_name, fun x hx => hx, fun _ => True, qt_any (pn_isZero (pn_draw (hΓ _) (hn _) pos few)), fun _ => ?_, fun _ acc ⟨a, L, e, l, o⟩ => ⟨hj, L, e, by omega, o⟩⟩
    refine (pd (x := tD t) (hi _)).mono fun u e => ⟨_, e, fun acc ⟨a, L, e2, l, o⟩ => ⟨hj, L ++ [t], by rw [e2]; simp, by rw [List.length_append]; simp; omega, fun u hu => ?_⟩⟩
    rcases List.mem_append.mp hu with q | q
    · exact o u q
    · rw [List.mem_singleton.mp q]; exact hin
  · rintro ds acc rfl ⟨a, L, e, l, o⟩
    exact ⟨L, e, by rw [List.length_map] at l; omega, o⟩
theorem pn_classes {te : TE} {β : List Nat} (bl : Bks β) (h : Pn K bc cs Γ te (· = .d (.list (isD β)))) : Pn K bc cs Γ (tCall (spLc K) [] E (tCons te tNil)) (· = .d (.list ((classes β).map tD))) :=
  pn_call (⟨β, bl⟩ : BksI) (qa_cons h qa_nil) (fun t m => by simp at m; rw [m]; trivial) fun r e => by rw [e]; exact ⟨trivial, rfl⟩
/-- _law_let(backs, a list of threes) -/
theorem pn_letOf {ta tl : TE} {β : List Nat} (bl : Bks β) (ha : Pn K bc cs Γ ta (· = .d (.list (isD β)))) (hl : Pf K bc cs Γ tl (fun ds => ∃ L : List T3, ds = L.map tD ∧ L.length ≤ 64 ∧ ∀ t, t ∈ L → In3 β.length t)) :
    Pn K bc cs Γ (tCall (spLt K) [] E (tCons ta (tCons tl tNil))) (fun t => ∃ B, Clsd β B ∧ t = .d (letD β.length B)) :=
  pn_callG (qa_consG ha (qa_consG hl.pn qa_nil)) fun l ⟨t, ts, e1, ⟨t2, ts2, ⟨ds, ⟨L, e4, _, ok⟩, e3⟩, e5, e6⟩, e7⟩ => by
    subst e1 e5
    subst e3 e4
    subst e6
    subst e7
    exact ⟨⟨β, L, bl, ok⟩, rfl, fun t m => by simp at m; rcases m with rfl | rfl <;> trivial, fun r e => by rw [e]; exact ⟨trivial, _, clo_clsd bl ok, rfl⟩⟩
theorem tr_any_world (x : MnI) : Trp K [handC K] E (t_law_any_world K (spLb K) (spDr K) (spLt K) (spLc K)) 3 lbTs awR x := by
  obtain ⟨m, lo, hi⟩ := x
  refine tr_seq (tr_asg (T := fun t => ∃ β, Bks β ∧ β.length = m ∧ t = .d (.list (isD β))) (pn_callB (⟨m, lo, hi⟩ : MnI) (qa_cons (pb rfl) (qa_cons (pd rfl) qa_nil)) (fun t m => by simp at m; rcases m with rfl | rfl <;> trivial) fun r ⟨β, b1, b2, e⟩ => by rw [e]; exact ⟨trivial, β, b1, b2, rfl⟩) ?_)
  rintro _ ⟨β, bl, hbl, rfl⟩
  refine tr_seq (tr_asg (T := fun t => ∃ k : Nat, k < 3 ∧ t = .d (iD (2 + k))) (pn_op pc_int (pn_draw rfl (pc_int (i := 3)) (by decide) (by decide)) fun t u e ⟨k, hk, e2⟩ => ?_) ?_)
  · rw [e, e2]
    exact ro_int.mono fun z ez => ⟨k, hk, by rw [ez]; show Tv.d (.int (2 + (k : Int))) = Tv.d (.int ((2 + k : Nat) : Int)); congr 2⟩
  rintro _ ⟨k, hk, rfl⟩
  refine tr_ret (T := fun t => ∃ B, Clsd β B ∧ t = .d (worldD β B)) ?_ fun t ⟨B, c, e⟩ => by rw [e]; exact ⟨trivial, rfl, β, B, bl, hbl, c, rfl⟩
  have hlet : Pn K [handC K] [] [.bas 0, .d (iD m), .d (.list (isD β)), .d (iD (2 + k)), .any] (tCall (spLt K) [] E0 (tCons (tVar 2) (tCons (tLc (iSeq K (tCall (spLc K) [] E0 (tCons (tVar 2) tNil))) (gName 4) (tTest (tOp (rEqD K) (tCall (spDr K) [] E0 (tCons (tVar 0) (tCons (tVar 3) tNil))) (tC (.int 0)))) (tVar 4) [4]) tNil))) (fun t => ∃ B, Clsd β B ∧ t = .d (letD β.length B)) :=
    pn_letOf bl (pd rfl) (pf_someClasses bl rfl (fun _ => rfl) (fun _ => rfl) (by omega) (by omega) (pn_classes bl (pd rfl)) fun _ => pd rfl)
  intro M bs ls σ H S Q q
  refine pd (x := .list (isD β)) (i := 2) rfl M bs ls σ H S _ fun t v H1 ht S1 k1 hv => hlet M bs ls σ H1 S1 _ fun u v2 H2 ⟨B, c, e⟩ S2 k2 hv2 => ?_
  subst ht e
  refine ⟨by show 2 ≤ sizeLine; rw [sizeLine_eq]; decide, fun p n => ?_⟩
  have ex := ex_upd (o := .tup [v, v2]) n
  refine q _ _ _ ⟨B, c, rfl⟩ (S2.ex ex) ((k1.trans k2).trans (Kp.of_ex ex)) (.tup ?_ (.cons (Dq.ex (Kp.of_ex ex).ex _ _ (Dq.ex k2.ex _ _ hv)) (.cons (Dq.ex (Kp.of_ex ex).ex _ _ hv2) .nil)))
  rw [hid_of (nin (S2.new n)), upd_same]
end
end Z
set_option Elab.async false
set_option linter.all false
set_option maxRecDepth 100000
set_option maxHeartbeats 1000000
namespace Z
open PySem PySem.Spec PyProof.Rows L2
section
variable {P : Program} {w : World} {K : PySem.W.Frag} {bc cs : List Cell} {Γ : List Tv} {E : XK} {N : List Cell → List Cell → List Tv → Prop} {R : List Cell → Rv → Prop} {X : Xv → Prop} {mg : Str → Option Value}
theorem qt_andG {tt uu : TT} {a : Bool} {B : Bool → Prop} (h : Pt K bc cs Γ tt (· = a)) (g : a = true → Pt K bc cs Γ uu B) : Pt K bc cs Γ (tAnd tt uu) (fun b => b = true → a = true) := fun M bs ls σ H S Q q => h M bs ls σ H S _ fun t H1 ht S1 k1 => by
  subst ht
  cases t with
  | true => exact g rfl M bs ls σ H1 S1 Q fun u H2 hu S2 k2 => q u H2 (fun _ => rfl) S2 (k1.trans k2)
  | false => exact q false H1 (fun e => e) S1 k1
/-- an item of a three -/
theorem t_0 {t : T3} : atI [iD t.1, iD t.2.1, iD t.2.2] (0 : Int) = some (iD t.1) := rfl
theorem t_1 {t : T3} : atI [iD t.1, iD t.2.1, iD t.2.2] (1 : Int) = some (iD t.2.1) := rfl
theorem t_2 {t : T3} : atI [iD t.1, iD t.2.1, iD t.2.2] (2 : Int) = some (iD t.2.2) := rfl
/-! ### _law_bars_handed -/
/-- the closure of L is B -/
structure Gen (β : List Nat) (B : T3 → Bool) (L : List T3) : Prop where
  ok : ∀ t, t ∈ L → In3 β.length t ∧ B t = true
  all : ∀ t, In3 β.length t → B t = true → ∃ x, x ∈ L ∧ t ∈ readings (bk β) x
abbrev bhTs : WoI → List Tv := fun x => [.bas 0, .d (worldD x.β x.B)]
abbrev bhR : WoI → Rv → Prop := fun x r => ∃ L, Gen x.β x.B L ∧ L.length ≤ 65 ∧ r = .tv (.d (.list (L.map tD)))
abbrev spBh (K : PySem.W.Frag) : Sp := Pro K [handC K] bhTs bhR
theorem map_insert {L : List T3} {n : Nat} {t : T3} : (L.map tD).take n ++ [tD t] ++ (L.map tD).drop n = (L.take n ++ [t] ++ L.drop n).map tD := by simp
theorem mem_insert {L : List T3} {n : Nat} {t u : T3} : u ∈ L.take n ++ [t] ++ L.drop n ↔ u ∈ L ∨ u = t := by
  have : u ∈ L ↔ u ∈ L.take n ∨ u ∈ L.drop n := by
    rw [← List.mem_append, List.take_append_drop]
  rw [this]
  simp only [List.mem_append, List.mem_singleton]
  constructor
  · rintro ((h | h) | h)
    · exact .inl (.inl h)
    · exact .inr h
    · exact .inl (.inr h)
  · rintro ((h | h) | h)
    · exact .inl (.inl h)
    · exact .inr h
    · exact .inl (.inr h)
theorem tr_bars_handed (x : WoI) : Trp K [handC K] E (t_law_bars_handed K (spLc K) (spDr K) (spPk K) (spLr K)) 5 bhTs bhR x := by
  obtain ⟨β, B, bl, cl⟩ := x
  have hcl : (classes β).length ≤ 64 := Nat.le_trans (List.length_filter_le _ _) (all_len bl.hi)
  refine tr_seq (tr_asgG (pd (x := worldD β B) rfl) tg_2 ?_)
  refine tr_seq (tr_newL (pf_lstD (ds := []) qa_nil (by decide)) fun ds e => ?_)
  subst e
  refine tr_seq (tr_for (si_seqL (pn_classes bl (pd rfl))) (fun _ i b c γ => b = [handC K] ∧ Wk γ [.bas 0, .d (worldD β B), .d (.list (isD β)), .d (letD β.length B), .cel 0, .any, .any] ∧ ∃ L : List T3, c = [lstC K (L.map tD)] ∧ L.length ≤ i ∧ i ≤ (classes β).length ∧ (∀ t, t ∈ L → In3 β.length t ∧ B t = true) ∧ ∀ x, x ∈ (classes β).take i → B x = true → ∃ y, y ∈ L ∧ y ∈ readings (bk β) x)
    (fun _ _ => ⟨rfl, Wk.refl _, [], rfl, Nat.le_refl _, Nat.zero_le _, fun t m => (by cases m), fun x m => (by simp at m)⟩) ?_ ?_)
  · rintro ds i d b c γ rfl hd ⟨rfl, hw, L, rfl, hLl, hi', hLo, hLa⟩
    obtain ⟨t, ht, rfl⟩ := ts_at hd
    have hi : i < (classes β).length := (List.getElem?_eq_some_iff.mp ht).1
    have hin := class_in (List.mem_of_getElem? ht)
    refine ⟨_, _, tg_name, tr_wk (wk_set hw) ?_⟩
    refine tr_if (qt_not (qt_B (pn_let hin (pd rfl) (pd_op (pd (x := tD t) rfl) pc_int (ro_ixT t_0)) (pd_op (pd (x := tD t) rfl) pc_int (ro_ixT t_1)) (pd_op (pd (x := tD t) rfl) pc_int (ro_ixT t_2))))) (fun hb => ?_) fun hb => tr_next ?_
    · have hb' : B t = true := by simpa using hb
      have hlen : Pn K [handC K] [lstC K (L.map tD)] [.bas 0, .d (worldD β B), .d (.list (isD β)), .d (letD β.length B), .cel 0, .d (tD t), .any] (tOp rAdd (tCB (rLen K) (tCons (tVar 4) tNil)) (tC (.int 1))) (· = .d (iD (L.length + 1))) := by
        refine (pd_op (pn_lenL (pc rfl) (.c 0 _ rfl)) pc_int ro_int).mono fun z e => ?_
        rw [e, List.length_map]
        rfl
      refine tr_seq (tr_asg (T := fun u => ∃ k : Nat, k < L.length + 1 ∧ u = .d (iD k)) (pn_draw rfl hlen (by omega) (by omega)) ?_)
      rintro _ ⟨k, hk, rfl⟩
      refine tr_insert (I := fun n => n = k) (T := fun u => ∃ y : T3, y ∈ readings (bk β) t ∧ u = .d (tD y)) (k := 0) rfl rfl (by rw [List.length_map]; omega) ((pd (x := iD k) rfl).mono fun u e => ⟨k, rfl, e⟩) (fun n e => by omega) ?_ ?_
      · refine (pn_pick (ds := (readings (bk β) t).map tD) rfl (pf_readings bl hin (pd rfl) (pd_op (pd (x := tD t) rfl) pc_int (ro_ixT t_0)) (pd_op (pd (x := tD t) rfl) pc_int (ro_ixT t_1)) (pd_op (pd (x := tD t) rfl) pc_int (ro_ixT t_2))).pd (by show 1 ≤ 6; decide) (by show 6 ≤ 1000; decide)).mono fun u ⟨d, hd, e⟩ => ?_
        obtain ⟨y, hy, rfl⟩ := tDs_mem hd
        exact ⟨y, hy, e⟩
      · rintro n _ rfl ⟨y, hy, rfl⟩
        refine ⟨tD y, rfl, rfl, ⟨.inr rfl, .inr rfl, .inr rfl, .inr rfl, .inr rfl, .inl rfl, .inl rfl, trivial⟩, L.take n ++ [y] ++ L.drop n, by rw [map_insert]; rfl, ?_, hi, fun u hu => ?_, fun x hx hbx => ?_⟩
        · simp only [List.length_append, List.length_take, List.length_drop, List.length_cons, List.length_nil]
          omega
        · rcases mem_insert.mp hu with q | q
          · exact hLo u q
          · rw [q]
            exact ⟨rd_in bl hin hy, by rw [cl t hin y hy]; exact hb'⟩
        · rw [take_succ ht] at hx
          rcases List.mem_append.mp hx with q | q
          · obtain ⟨y', h1, h2⟩ := hLa x q hbx
            exact ⟨y', mem_insert.mpr (.inl h1), h2⟩
          · rw [List.mem_singleton.mp q]
            exact ⟨y, mem_insert.mpr (.inr rfl), hy⟩
    · have hb' : B t = false := by simpa using hb
      refine ⟨rfl, ⟨.inr rfl, .inr rfl, .inr rfl, .inr rfl, .inr rfl, .inl rfl, .inr rfl, trivial⟩, L, rfl, by omega, hi, hLo, fun x hx hbx => ?_⟩
      rw [take_succ ht] at hx
      rcases List.mem_append.mp hx with q | q
      · exact hLa x q hbx
      · rw [List.mem_singleton.mp q, hb'] at hbx
        cases hbx
  · rintro ds b c γ rfl ⟨rfl, hw, L, rfl, hLl, _, hLo, hLa⟩
    rw [List.length_map] at hLl hLa
    rw [List.take_length] at hLa
    have gen : Gen β B L := ⟨hLo, fun t ht hb => by
      obtain ⟨x, hx, htx, hxin⟩ := class_of bl ht
      have hbx : B x = true := by rw [← cl x hxin t htx]; exact hb
      obtain ⟨y, hy, hyx⟩ := hLa x hx hbx
      exact ⟨y, hy, (rd_same bl hxin hyx t).mpr htx⟩⟩
    refine tr_wk hw ?_
    refine tr_seq (tr_ifG (B := fun b => b = true → (!PyData.eqv (.list (L.map tD)) (.list [])) = true) (qt_andG (qt_of ?_) fun _ => qt_any (pn_isZero (pn_draw rfl (pc_int (i := 4)) (by decide) (by decide)))) (fun hb => ?_) fun _ => tr_next ?_)
    · exact pd_op (pc rfl) (pf_lstD (ds := []) qa_nil (by decide)).psd (ro_neL (.c 0 _ rfl) (.s []) ((fl_ts L).sh (by decide)) (by decide +kernel))
    · have hne : L ≠ [] := fun e => by
        have := hb rfl
        rw [e] at this
        revert this
        decide +kernel
      have h0 : 0 < L.length := List.length_pos_iff.mpr hne
      have e0 : (L.map tD)[0]? = some (tD L[0]) := by rw [List.getElem?_map, List.getElem?_eq_getElem h0]; rfl
      refine tr_append (T := (· = .d (tD L[0]))) (k := 0) rfl rfl (by rw [List.length_map]; omega) (pd_op (pc rfl) pc_int (ro_ix (.c 0 _ rfl) (atI_nat' (i := 0) e0))) fun t e => ⟨_, e, ?_⟩
      have hm : L[0] ∈ L := List.getElem_mem h0
      refine tr_retC (k := 0) (ds := (L ++ [L[0]]).map tD) rfl (by simp) ⟨rfl, L ++ [L[0]], ⟨fun t ht => ?_, fun t h1 h2 => ?_⟩, by simp; omega, rfl⟩
      · rcases List.mem_append.mp ht with q | q
        · exact gen.ok t q
        · rw [List.mem_singleton.mp q]; exact gen.ok _ hm
      · obtain ⟨x, hx, h3⟩ := gen.all t h1 h2
        exact ⟨x, List.mem_append_left _ hx, h3⟩
    · exact tr_retC rfl rfl ⟨rfl, L, gen, by omega, rfl⟩
theorem gen_clo {β : List Nat} (bl : Bks β) {B : T3 → Bool} (cl : Clsd β B) {L : List T3} (g : Gen β B L) : ∀ t, In3 β.length t → clo (bk β) L t = B t := fun t ht => by
  cases q : B t with
  | true => exact clo_iff.mpr (g.all t ht q)
  | false =>
    cases q2 : clo (bk β) L t with
    | false => rfl
    | true =>
      obtain ⟨x, hx, h⟩ := clo_iff.mp q2
      rw [cl x (g.ok x hx).1 t h, (g.ok x hx).2] at q
      cases q
/-! ### books of like threes -/
theorem barL_congr {m : Nat} {B B' : T3 → Bool} (h : ∀ t, In3 m t → B t = B' t) : barL m B = barL m B' := by
  unfold barL
  exact List.filter_congr fun t ht => h t (mem_allT.mp ht)
theorem gridD_congr {m : Nat} {B B' : T3 → Bool} (h : ∀ t, In3 m t → B t = B' t) : gridD m B = gridD m B' := by
  unfold gridD
  congr 1
  refine List.map_congr_left fun p hp => ?_
  congr 1
  refine List.map_congr_left fun q hq => ?_
  congr 1
  refine List.map_congr_left fun r hr => ?_
  rw [h (p, q, r) ⟨List.mem_range.mp hp, List.mem_range.mp hq, List.mem_range.mp hr⟩]
theorem letD_congr {m : Nat} {B B' : T3 → Bool} (h : ∀ t, In3 m t → B t = B' t) : letD m B = letD m B' := by
  unfold letD
  congr 1
  refine List.map_congr_left fun p hp => ?_
  congr 1
  refine List.map_congr_left fun q hq => ?_
  congr 1
  refine List.map_congr_left fun r hr => ?_
  rw [h (p, q, r) ⟨List.mem_range.mp hp, List.mem_range.mp hq, List.mem_range.mp hr⟩]
theorem bookN_congr {β : List Nat} {B B' : T3 → Bool} (h : ∀ t, In3 β.length t → B t = B' t) : bookN K β B = bookN K β B' := by
  show [_, _, _, _] = [_, _, _, _]
  unfold barD
  rw [barL_congr h, gridD_congr h]
/-! ### _law_book, _law_rows, _law_company -/
theorem pn_mkTies {te : TE} {β : List Nat} (bl : Bks β) (h : Pn K bc cs Γ te (· = .d (.list (isD β)))) : Pn K bc cs Γ (tMake (He.ga K "Ties") (spTies K) [] E (tCons te tNil)) (· = .sem (tiesS K β)) :=
  pn_make (⟨β, bl⟩ : BksI) (qa_cons h qa_nil) fun t m => by simp at m; rw [m]; trivial
abbrev lbkR (K : PySem.W.Frag) : WoI → Rv → Prop := fun x r => r = .tv (.sem (bookS K x.β x.B))
abbrev spLbk (K : PySem.W.Frag) : Sp := Pro K [handC K] bhTs (lbkR K)
theorem tr_law_book (x : WoI) : Trp K [handC K] E (t_law_book K (spBk K) (spTies K) (spBh K)) 0 bhTs (lbkR K) x := by
  obtain ⟨β, B, bl, cl⟩ := x
  refine tr_ret (T := (· = .sem (bookS K β B))) ?_ fun t e => by rw [e]; exact ⟨trivial, rfl, rfl⟩
  refine pn_makeG (qa_consG (pn_mkTies bl (pd_op (pd (x := worldD β B) rfl) pc_int (ro_ixT w_0))) (qa_consG (pn_callB (T := fun t => ∃ L, Gen β B L ∧ t = .d (.list (L.map tD))) (⟨β, B, bl, cl⟩ : WoI) (qa_cons (pb rfl) (qa_cons (pd rfl) qa_nil)) (fun t m => by simp at m; rcases m with rfl | rfl <;> trivial) fun r ⟨L, g, _, e⟩ => by rw [e]; exact ⟨trivial, L, g, rfl⟩) qa_nil)) ?_
  rintro l ⟨t, ts, rfl, ⟨t2, ts2, ⟨L, g, rfl⟩, rfl, rfl⟩, rfl⟩
  refine ⟨(⟨β, L, bl, fun t ht => (g.ok t ht).1⟩ : ThsI), rfl, fun t m => by simp at m; rcases m with rfl | rfl <;> trivial, ?_⟩
  show Tv.sem (insS K (cB K) (bookN K β (clo (bk β) L))) = .sem (insS K (cB K) (bookN K β B))
  rw [bookN_congr (gen_clo bl cl g)]
end
end Z
set_option Elab.async false
set_option linter.all false
set_option maxRecDepth 100000
set_option maxHeartbeats 1000000
namespace Z
open PySem PySem.Spec PyProof.Rows L2
section
variable {P : Program} {w : World} {K : PySem.W.Frag} {bc cs : List Cell} {Γ : List Tv} {E : XK} {N : List Cell → List Cell → List Tv → Prop} {R : List Cell → Rv → Prop} {X : Xv → Prop} {mg : Str → Option Value}
/-! ### _law_shape -/
abbrev shTs : List PyData → List Tv := fun x => [.bas 0, .d (.tuple x)]
abbrev shR : List PyData → Rv → Prop := fun x r => r = .fr x ∨ r = .tv (.d (.tuple x))
abbrev spSh (K : PySem.W.Frag) : Sp := Pro K [handC K] shTs shR
theorem tr_law_shape (x : List PyData) : Trp K [handC K] E (t_law_shape K (spDr K)) 0 shTs shR x := by
  refine tr_seq (tr_ifG (B := fun _ => True) (qt_any (pn_isZero (pn_draw rfl (pc_int (i := 2)) (by decide) (by decide)))) (fun _ => ?_) fun _ => tr_next ?_)
  · exact tr_retF (pf_listT (pd rfl)) fun ds e => ⟨rfl, .inl (by rw [e])⟩
  · exact tr_retD (pn_tupT (pd rfl)) ⟨rfl, .inr rfl⟩
/-! ### _law_shuffled -/
structure FwI where
  ds : List PyData
  few : ds.length ≤ 100
abbrev sfTs : FwI → List Tv := fun x => [.bas 0, .d (.list x.ds)]
abbrev sfR : FwI → Rv → Prop := fun x r => ∃ es, List.Perm es x.ds ∧ r = .tv (.d (.list es))
abbrev spSf (K : PySem.W.Frag) : Sp := Pro K [handC K] sfTs sfR
theorem perm_insert {es ds : List PyData} {n : Nat} {d : PyData} (h : List.Perm es ds) : List.Perm (es.take n ++ [d] ++ es.drop n) (ds ++ [d]) := by
  have h1 : List.Perm (es.take n ++ [d] ++ es.drop n) (es.take n ++ es.drop n ++ [d]) := by
    rw [List.append_assoc, List.append_assoc]
    exact List.Perm.append_left _ List.perm_append_comm
  rw [List.take_append_drop] at h1
  exact h1.trans (h.append_right _)
/-- ([] to be filled) -/
theorem tr_law_shuffled (x : FwI) : Trp K [handC K] E (t_law_shuffled K (spDr K)) 2 sfTs sfR x := by
  obtain ⟨ds, few⟩ := x
  refine tr_seq (tr_newL (pf_lstD (ds := []) qa_nil (by decide)) fun ds e => ?_)
  subst e
  refine tr_seq (tr_for (si_seqL (pd rfl)) (fun _ i b c γ => b = [handC K] ∧ i ≤ ds.length ∧ Wk γ [.bas 0, .d (.list ds), .cel 0, .any] ∧ ∃ es, c = [lstC K es] ∧ List.Perm es (ds.take i)) (fun _ _ => ⟨rfl, Nat.zero_le _, Wk.refl _, [], rfl, by simp⟩) ?_ ?_)
  · rintro ds i d b c γ rfl hd ⟨rfl, _, hw, es, rfl, hp⟩
    have hi := (List.getElem?_eq_some_iff.mp hd).1
    have hl : es.length = i := by rw [hp.length_eq, List.length_take]; omega
    refine ⟨_, _, tg_name, tr_wk (wk_set hw) ?_⟩
    refine tr_insert (I := fun n => n < es.length + 1) (T := fun u => u = .d d) (k := 0) rfl rfl (by omega) ?_ (fun n e => by omega) (pd rfl) ?_
    · refine (pn_draw rfl (n := es.length + 1) ?_ (by omega) (by omega)).mono fun t ⟨k, hk, e⟩ => ⟨k, hk, e⟩
      exact pd_op (pn_lenL (pc rfl) (.c 0 _ rfl)) pc_int ro_int
    · rintro n _ hn rfl
      exact ⟨d, rfl, rfl, hi, ⟨.inr rfl, .inr rfl, .inr rfl, .inl rfl, trivial⟩, _, rfl, by rw [take_succ hd]; exact perm_insert hp⟩
  · rintro ds b c γ rfl ⟨rfl, _, hw, es, rfl, hp⟩
    rw [List.take_length] at hp
    exact tr_wk hw (tr_retC rfl rfl ⟨rfl, es, hp, rfl⟩)
/-! ### _law_orders -/
def rowL (r : List Nat) : PyData := .list (isD r)
abbrev orTs : MnI → List Tv := fun x => [.d (iD x.m)]
abbrev orR : MnI → Rv → Prop := fun x r => r = .tv (.d (.list ((ordK x.m x.m).map rowL)))
abbrev spOr (K : PySem.W.Frag) : Sp := Pro K [] orTs orR
theorem any_isD {n : Nat} {r : List Nat} : ((isD r).any fun z => PyData.eqv z (iD n)) = r.contains n := by
  unfold isD
  induction r with
  | nil => rfl
  | cons a r ih =>
    rw [List.map_cons, List.any_cons, ih, List.contains_cons, eqv_int]
    congr 1
    rw [Bool.eq_iff_iff]
    simp only [decide_eq_true_eq, beq_iff_eq]
    omega
theorem isD_app {a b : List Nat} : isD a ++ isD b = isD (a ++ b) := by simp [isD]
theorem tr_law_orders (x : MnI) : Trp K [] E (t_law_orders K) 5 orTs orR x := by
  obtain ⟨m, lo, hm⟩ := x
  refine tr_seq (tr_set (t := .sem (sLst K [rowL []])) (pf_lstD (qa_cons (pf_lstD (ds := []) qa_nil (by decide)).pd qa_nil) (by decide)).psd ?_)
  refine tr_seq (tr_for (si_rng1 (n := m) (pd rfl) (by omega)) (fun _ i b c γ => b = [] ∧ c = [] ∧ Wk γ [.d (iD m), .sem (sLst K ((ordK m i).map rowL)), .any, .any, .any, .any]) (fun _ _ => ⟨rfl, rfl, Wk.refl _⟩) ?_ ?_)
  · rintro ds i d b c γ rfl hd ⟨rfl, rfl, hw⟩
    obtain ⟨hi, rfl⟩ := rgD_get hd
    refine ⟨_, _, tg_name, tr_wk (wk_set hw) ?_⟩
    have hfew := ord_few (m := m) (k := i) (by omega) (Nat.le_of_lt hi)
    refine tr_seq (tr_set (t := .sem (sLst K [])) (pf_lstD (ds := []) qa_nil (by decide)).psd ?_)
    refine tr_seq (tr_for (si_seqL (pl rfl)) (fun _ k b c γ => b = [] ∧ c = [] ∧ k ≤ (ordK m i).length ∧ Wk γ [.d (iD m), .sem (sLst K ((ordK m i).map rowL)), .any, .sem (sLst K ((extR m ((ordK m i).take k)).map rowL)), .any, .any]) (fun _ _ => ⟨rfl, rfl, Nat.zero_le _, ⟨.inr rfl, .inr rfl, .inl rfl, .inr rfl, .inr rfl, .inr rfl, trivial⟩⟩) ?_ ?_)
    · rintro ds k d b c γ rfl hk ⟨rfl, rfl, _, hw⟩
      obtain ⟨r, hr, rfl⟩ := map_at hk
      obtain ⟨hrl, hrm, hrn⟩ := ord_row (List.mem_of_getElem? hr)
      have hkl := (List.getElem?_eq_some_iff.mp hr).1
      refine ⟨_, _, tg_name, tr_wk (wk_set hw) ?_⟩
      have h1 := extR_len (m := m) (rows := (ordK m i).take k)
      rw [List.length_take] at h1
      have h3 : min k (ordK m i).length * m ≤ 24 * 4 := Nat.mul_le_mul (by omega) (by omega)
      refine tr_set (t := .sem (sLst K ((extR m ((ordK m i).take (k + 1))).map rowL))) ?_ ⟨rfl, rfl, hkl, ⟨.inr rfl, .inr rfl, .inr rfl, .inr rfl, .inl rfl, .inr rfl, trivial⟩⟩
      have he : (extR m ((ordK m i).take (k + 1))).map rowL = (extR m ((ordK m i).take k)).map rowL ++ (((List.range m).filter fun x => !r.contains x).map fun x => r ++ [x]).map rowL := by rw [extR_take hr, List.map_append]
      have h2 := List.length_filter_le (fun x => !r.contains x) (List.range m)
      rw [List.length_range] at h2
      rw [he]
      refine (pf_cat (ps rfl) (Pf.psd ?_) (.s _) (.s _) (by simp only [List.length_map]; omega)).psd
      refine pf_lc (T := (· = rgD 0 m)) (si_rng1 (n := m) (pd rfl) (by omega)) (fun _ j acc => acc = ((((List.range m).take j).filter fun x => !r.contains x).map fun x => r ++ [x]).map rowL) (fun _ _ => rfl) (fun ds j acc _ a => ?_) ?_ ?_
      · rw [a, List.length_map, List.length_map]
        have h2 := List.length_filter_le (fun x => !r.contains x) ((List.range m).take j)
        rw [List.length_take, List.length_range] at h2
        omega
      · rintro ds j d rfl hj
        obtain ⟨hj2, rfl⟩ := rgD_get hj
        rw [Nat.zero_add]
        refine ⟨_, _, tg_name, fun x hx => hx, (· = !r.contains j), qt_of ?_, fun hb => ?_, fun hb acc a => ?_⟩
        · rw [← any_isD]
          exact pd_op (pd (x := iD j) rfl) (pd rfl) (ro_notIn (.d (isD r)) sh_int ((fl_is r).sh (by decide)))
        · have hc : Pn K [] [] ([Tv.d (iD m), .sem (sLst K ((ordK m i).map rowL)), .any, .sem (sLst K ((extR m ((ordK m i).take k)).map rowL)), .d (rowL r), .d (iD j)]) (tOp rCat (tVar 4) (tLst (tCons (tVar 5) tNil))) (· = .d (rowL (r ++ [j]))) := by
            have e : rowL (r ++ [j]) = .list (isD r ++ [iD j]) := by unfold rowL; rw [← isD_app]; rfl
            rw [e]
            exact (pf_cat (pd rfl) (pf_lstD (ds := [iD j]) (qa_cons (pd rfl) qa_nil) (by simp)).pd (.d (isD r)) (.d [iD j]) (by rw [isD_len]; simp; omega)).pd
          refine hc.mono fun t e => ⟨_, e, fun acc a => ?_⟩
          rw [a, range_take hj2, List.filter_append]
          simp only [List.map_append, List.filter_cons, List.filter_nil, ← hb, if_true, List.map_cons, List.map_nil]
        · rw [a, range_take hj2, List.filter_append]
          simp only [List.filter_cons, List.filter_nil, ← hb, Bool.false_eq_true, if_false, List.append_nil]
      · rintro ds acc rfl e
        rw [e, rgD_len]
        have : (List.range m).take m = List.range m := by
          have := List.take_length (l := List.range m)
          rwa [List.length_range] at this
        rw [this]
    · rintro ds b c γ rfl ⟨rfl, rfl, _, hw⟩
      rw [List.length_map, List.take_length] at hw
      refine tr_wk hw (tr_set (t := .sem (sLst K ((ordK m (i + 1)).map rowL))) (ps rfl) ⟨rfl, rfl, ⟨.inr rfl, .inr rfl, .inl rfl, .inl rfl, .inl rfl, .inl rfl, trivial⟩⟩)
  · rintro ds b c γ rfl ⟨rfl, rfl, hw⟩
    rw [rgD_len] at hw
    exact tr_wk hw (tr_retD (pl rfl) ⟨rfl, rfl⟩)
/-! ### _law_namings -/
abbrev naTs : BksI → List Tv := fun x => [.d (.list (isD x.1))]
abbrev naR : BksI → Rv → Prop := fun x r => r = .tv (.d (.list ((namings x.1).map rowL)))
abbrev spNa (K : PySem.W.Frag) : Sp := Pro K [] naTs naR
theorem filter_all {α : Type} {l : List α} {p : α → Bool} : (l.filter p).length = l.length ↔ l.all p = true := by
  rw [List.length_filter_eq_length_iff, List.all_eq_true]
theorem tr_law_namings (x : BksI) : Trp K [] E (t_law_namings K (spOr K)) 4 naTs naR x := by
  obtain ⟨β, bl⟩ := x
  have hm := bl.hi
  have hl := @isD_len β
  have hfew := ord_few hm (Nat.le_refl β.length)
  refine tr_seq (tr_newL (pf_lstD (ds := []) qa_nil (by decide)) fun ds e => ?_)
  subst e
  have hlen : ∀ {cs Γ}, Γ[0]? = some (.d (.list (isD β))) → Pn K [] cs Γ (tCB (rLen K) (tCons (tVar 0) tNil)) (· = .d (iD β.length)) := fun h => by rw [← hl]; exact pn_lenD (pd h)
  refine tr_seq (tr_for (T := (· = (ordK β.length β.length).map rowL)) (si_seqL (pn_call (T := (· = .d (.list ((ordK β.length β.length).map rowL)))) (⟨β.length, bl.lo, bl.hi⟩ : MnI) (qa_cons (hlen rfl) qa_nil) (fun t m => by simp at m; rw [m]; trivial) fun r e => by rw [e]; exact ⟨trivial, rfl⟩)) (fun _ i b c γ => b = [] ∧ i ≤ (ordK β.length β.length).length ∧ Wk γ [.d (.list (isD β)), .cel 0, .any, .any, .any] ∧ c = [lstC K ((((ordK β.length β.length).take i).filter (kp β)).map rowL)]) (fun ds e => ⟨rfl, Nat.zero_le _, Wk.refl _, rfl⟩) ?_ ?_)
  · rintro ds i d b c γ rfl hd ⟨rfl, _, hw, rfl⟩
    obtain ⟨r, hr, rfl⟩ := map_at hd
    obtain ⟨hrl, hrm, hrn⟩ := ord_row (List.mem_of_getElem? hr)
    have hi := (List.getElem?_eq_some_iff.mp hr).1
    refine ⟨_, _, tg_name, tr_wk (wk_set hw) ?_⟩
    let good : Nat → Bool := fun t => decide (bk β (bk r t) = bk r (bk β t))
    refine tr_seq (tr_set (t := .sem (sLst K (((List.range β.length).filter good).map iD))) (Pf.psd ?_) ?_)
    · refine pf_lc (T := (· = rgD 0 β.length)) (si_rng1 (hlen rfl) (by omega)) (fun _ j acc => acc = (((List.range β.length).take j).filter good).map iD) (fun _ _ => rfl) (fun ds j acc _ a => ?_) ?_ ?_
      · rw [a, List.length_map]
        have h2 := List.length_filter_le good ((List.range β.length).take j)
        rw [List.length_take, List.length_range] at h2
        omega
      · rintro ds j d rfl hj
        obtain ⟨hj2, rfl⟩ := rgD_get hj
        rw [Nat.zero_add]
        have h1 : bk r j < β.length := hrm _ (bk_mem (by rw [hrl]; exact hj2))
        have h2 := bl.lt j hj2
        have hg : ∀ {t : Tv}, (t = .d (.bool (PyData.eqv (iD (bk β (bk r j))) (iD (bk r (bk β j)))))) → t = .d (.bool (good j)) := fun e => by
          rw [e, eqv_int]
          congr 2
          show decide _ = decide _
          congr 1
          exact propext ⟨fun h => by omega, fun h => by rw [h]⟩
        refine ⟨_, _, tg_name, fun x hx => hx, (· = good j), qt_of ((pd_op (pd_op (pd rfl) (pd_op (pd (x := rowL r) rfl) (pd (x := iD j) rfl) (ro_ixL (isD_atI (by rw [hrl]; exact hj2)))) (ro_ixL (isD_atI h1))) (pd_op (pd (x := rowL r) rfl) (pd_op (pd rfl) (pd (x := iD j) rfl) (ro_ixL (isD_atI hj2))) (ro_ixL (isD_atI (by rw [hrl]; exact h2)))) (ro_eq sh_int sh_int)).mono fun t e => hg e), fun hb => (pd (x := iD j) rfl).mono fun t e => ⟨_, e, fun acc a => ?_⟩, fun hb acc a => ?_⟩
        · rw [a, range_take hj2, List.filter_append]
          simp only [List.map_append, List.filter_cons, List.filter_nil, ← hb, if_true, List.map_cons, List.map_nil]
        · rw [a, range_take hj2, List.filter_append]
          simp only [List.filter_cons, List.filter_nil, ← hb, Bool.false_eq_true, if_false, List.append_nil]
      · rintro ds acc rfl e
        rw [e, rgD_len]
        have : (List.range β.length).take β.length = List.range β.length := by
          have := List.take_length (l := List.range β.length)
          rwa [List.length_range] at this
        rw [this]
    · have hk : decide (((List.range β.length).filter good).length = β.length) = kp β r := by
        rw [Bool.eq_iff_iff, decide_eq_true_eq]
        have := filter_all (l := List.range β.length) (p := good)
        rw [List.length_range] at this
        exact this
      refine tr_if (b := kp β r) (qt_of ?_) (fun hb => ?_) fun hb => tr_next ⟨rfl, hi, ⟨.inr rfl, .inr rfl, .inl rfl, .inl rfl, .inr rfl, trivial⟩, ?_⟩
      · have h1 : Pn K [] [lstC K ((((ordK β.length β.length).take i).filter (kp β)).map rowL)] [.d (.list (isD β)), .cel 0, .d (rowL r), .sem (sLst K (((List.range β.length).filter good).map iD)), .any] (tCB (rLen K) (tCons (tVar 3) tNil)) (· = .d (iD ((List.range β.length).filter good).length)) := by
          have := pn_lenD (K := K) (bc := []) (cs := [lstC K ((((ordK β.length β.length).take i).filter (kp β)).map rowL)]) (Γ := [.d (.list (isD β)), .cel 0, .d (rowL r), .sem (sLst K (((List.range β.length).filter good).map iD)), .any]) (te := tVar 3) (pl rfl)
          rwa [List.length_map] at this
        refine (pd_op h1 (hlen rfl) (ro_eq sh_int sh_int)).mono fun t e => ?_
        rw [e, eqv_int, ← hk]
        congr 2
        exact decide_eq_decide.mpr ⟨fun h => by omega, fun h => by rw [h]⟩
      · refine tr_append (T := (· = .d (rowL r))) (k := 0) rfl rfl ?_ (pd rfl) fun t e => ⟨_, e, rfl, hi, ⟨.inr rfl, .inr rfl, .inl rfl, .inl rfl, .inr rfl, trivial⟩, ?_⟩
        · rw [List.length_map]
          have h2 := List.length_filter_le (kp β) ((ordK β.length β.length).take i)
          rw [List.length_take] at h2
          omega
        · rw [take_succ hr, List.filter_append]
          simp [hb]
      · rw [take_succ hr, List.filter_append]
        simp [hb]
  · rintro ds b c γ rfl ⟨rfl, _, hw, rfl⟩
    rw [List.length_map, List.take_length]
    exact tr_wk hw (tr_retC rfl rfl ⟨rfl, rfl⟩)
end
end Z
set_option Elab.async false
set_option linter.all false
set_option maxRecDepth 100000
set_option maxHeartbeats 1000000
namespace Z
open PySem PySem.Spec PyProof.Rows L2
section
variable {P : Program} {w : World} {K : PySem.W.Frag} {bc cs : List Cell} {Γ : List Tv} {E : XK} {N : List Cell → List Cell → List Tv → Prop} {R : List Cell → Rv → Prop} {X : Xv → Prop} {mg : Str → Option Value}
/-! ### a run at the head of a list -/
theorem cut_head {xs : List V} {j : Nat} : cutV xs none (some (j : Int)) = xs.take j := by
  unfold cutV
  simp only [HT.sIx, List.drop_zero]
  rw [if_neg (by omega), Int.toNat_natCast, Nat.sub_zero]
  by_cases h : j ≤ xs.length
  · rw [Nat.min_eq_left h]
  · rw [Nat.min_eq_right (by omega), List.take_of_length_le (Nat.le_refl _), List.take_of_length_le (by omega)]
theorem pf_head {te tk : TE} {ds : List PyData} {j : Nat} (h : Pn K bc cs Γ te (· = .d (.list ds))) (g : Pn K bc cs Γ tk (· = .d (iD j))) : Pf K bc cs Γ (tSl (rSlL K) te tNoPart (tPart tk)) (· = ds.take j) := fun M bs ls σ H S Q q =>
  h M bs ls σ H S _ fun u v H1 hu S1 k1 hv => g M bs ls σ H1 S1 _ fun u2 v2 H2 hu2 S2 k2 hv2 => by
    subst hu hu2
    cases hv2
    obtain ⟨a, vs, rfl, h1, h2⟩ := S2.lst (.d ds) (hv.ex k2.ex)
    refine ⟨_, rfl, a, vs, rfl, SqL.of h1, fun p n => ?_⟩
    rw [cut_head]
    have ex := ex_upd (o := .lst (vs.take j)) n
    exact q _ _ p _ rfl (k1.free (k2.free n)) (S2.hide n) ((k1.trans k2).trans (Kp.of_ex ex)) upd_same (by rw [hid_new n]; exact DqAll.take j h2)
/-! ### a table -/
def tabRow (n : Nat) (f : Nat → Nat → Nat) (i : Nat) : List PyData := (List.range n).map fun j => if i = j then .int (-1) else iD (f i j)
def tabD (n : Nat) (f : Nat → Nat → Nat) : PyData := .list ((List.range n).map fun i => .list (tabRow n f i))
structure TabI where
  n : Nat
  f : Nat → Nat → Nat
  few : n ≤ 4
def rowsOf (n : Nat) (f : Nat → Nat → Nat) : List (List Nat) := (List.range n).map fun j => (List.range j).map (f j)
abbrev rwTs : TabI → List Tv := fun x => [.d (tabD x.n x.f)]
abbrev rwR : TabI → Rv → Prop := fun x r => r = .fr (rowsD (rowsOf x.n x.f))
abbrev spRw (K : PySem.W.Frag) : Sp := Pro K [] rwTs rwR
theorem tabRow_take {n i : Nat} {f : Nat → Nat → Nat} (h : i < n) : (tabRow n f i).take i = isD ((List.range i).map (f i)) := by
  unfold tabRow isD
  rw [← List.map_take, List.take_range, Nat.min_eq_left (Nat.le_of_lt h), List.map_map]
  refine List.map_congr_left fun j hj => ?_
  have := List.mem_range.mp hj
  rw [if_neg (by omega)]
  rfl
theorem tab_len {n : Nat} {f : Nat → Nat → Nat} {te : TE} (h : Pn K bc cs Γ te (· = .d (tabD n f))) : Pn K bc cs Γ (tCB (rLen K) (tCons te tNil)) (· = .d (iD n)) := by
  have := pn_lenD h
  simpa using this
theorem tr_law_rows (x : TabI) : Trp K [] E (t_law_rows K) 1 rwTs rwR x := by
  obtain ⟨n, f, few⟩ := x
  refine tr_retF (T := (· = rowsD (rowsOf n f))) ?_ fun ds e => ⟨rfl, by rw [e]⟩
  refine pf_map (ds := rgD 0 n) (si_rng1 (tab_len (pd rfl)) (by omega)) (by rw [rgD_len]; omega) (by rw [rowsD_len, rgD_len]; simp [rowsOf]) rfl fun j d hd => ?_
  obtain ⟨hj, rfl⟩ := rgD_get hd
  rw [Nat.zero_add]
  refine ⟨.list (isD ((List.range j).map (f j))), rowsD_at (by unfold rowsOf; exact range_map_at hj), ?_⟩
  rw [← tabRow_take hj]
  exact (pf_listL (pf_head (pd_op (pd rfl) (pd rfl) (ro_ixL (atI_nat' (range_map_at hj)))) (pd rfl)).pd (.d _)).pd
/-! ### _law_company -/
structure LcI where
  β : List Nat
  g : List Nat
  n : Nat
  f : Nat → Nat → Nat
  bl : Bks β
  few : n ≤ 4
  len : g.length = n
  lab : ∀ x, x ∈ g → x ≤ 1000000000
  asc : ∀ i, i + 1 < g.length → bk g i < bk g (i + 1)
  lt : ∀ i j, j < i → i < n → f i j < β.length
abbrev lcoTs : LcI → List Tv := fun x => [.d (.list (isD x.β)), .d (.list (isD x.g)), .d (tabD x.n x.f)]
abbrev lcoR (K : PySem.W.Frag) : LcI → Rv → Prop := fun x r => r = .tv (.sem (coS K x.β x.g (rowsOf x.n x.f)))
abbrev spLco (K : PySem.W.Frag) : Sp := Pro K [] lcoTs (lcoR K)
def LcI.co (x : LcI) : CoI := ⟨x.β, x.g, rowsOf x.n x.f, by rw [x.len]; exact Nat.le_trans x.few (by decide), by simp [rowsOf, x.len], x.lab, x.asc, fun i r h => by
  unfold rowsOf at h
  have hi : i < x.n := by
    have := (List.getElem?_eq_some_iff.mp h).1
    simpa using this
  rw [range_map_at hi] at h
  cases h
  refine ⟨by simp, fun y hy => ?_⟩
  obtain ⟨j, hj, rfl⟩ := List.mem_map.mp hy
  exact x.lt i j (List.mem_range.mp hj) hi⟩
theorem tr_law_company (x : LcI) : Trp K [] E (t_law_company K (spCo K) (spTies K) (spRw K)) 0 lcoTs (lcoR K) x := by
  refine tr_retS (s := coS K x.β x.g (rowsOf x.n x.f)) ?_ ⟨rfl, rfl⟩
  refine pn_make x.co (qa_cons (pn_mkTies x.bl (pd rfl)) (qa_cons (pd rfl) (qa_cons ?_ qa_nil))) fun t m => by simp at m; rcases m with rfl | rfl | rfl <;> trivial
  exact (pf_call (T := (· = rowsD (rowsOf x.n x.f))) (⟨x.n, x.f, x.few⟩ : TabI) (qa_cons (pd rfl) qa_nil) (fun t m => by simp at m; rw [m]; trivial) fun r e => ⟨_, e, rfl⟩).pd
/-! ### _law_labels -/
structure NlI where
  n : Nat
  lo : 3 ≤ n
  hi : n ≤ 4
abbrev llTs : NlI → List Tv := fun x => [.bas 0, .d (iD x.n)]
abbrev llR : NlI → Rv → Prop := fun x r => ∃ g : List Nat, g.length = x.n ∧ (∀ y, y ∈ g → y ≤ 1000000000) ∧ (∀ i, i + 1 < g.length → bk g i < bk g (i + 1)) ∧ r = .fr (isD g)
abbrev spLl (K : PySem.W.Frag) : Sp := Pro K [handC K] llTs llR
theorem bk_map {n i : Nat} {f : Nat → Nat} (h : i < n) : bk ((List.range n).map f) i = f i := by
  unfold bk
  rw [List.getD_eq_getElem?_getD, range_map_at h]
  rfl
/-- the labels base, base + step, .. -/
theorem labels_ok {n a s : Nat} (lo : 3 ≤ n) (hi : n ≤ 4) (hs : 0 < s) (h : a + 4 * s ≤ 1000000000 ∨ (n = 3 ∧ a + 2 * s ≤ 1000000000) ∨ (n = 4 ∧ a + 3 * s ≤ 1000000000)) : ∀ y, y ∈ (List.range n).map (fun k => a + k * s) → y ≤ 1000000000 := fun y hy => by
  obtain ⟨k, hk, rfl⟩ := List.mem_map.mp hy
  have := List.mem_range.mp hk
  rcases h with h | ⟨e, h⟩ | ⟨e, h⟩
  · have : k * s ≤ 4 * s := Nat.mul_le_mul_right s (by omega)
    omega
  · have : k * s ≤ 2 * s := Nat.mul_le_mul_right s (by omega)
    omega
  · have : k * s ≤ 3 * s := Nat.mul_le_mul_right s (by omega)
    omega
theorem tr_law_labels (x : NlI) : Trp K [handC K] E (t_law_labels K (spDr K)) 3 llTs llR x := by
  obtain ⟨n, lo, hi⟩ := x
  -- behind the if
  have rest : ∀ (N : List Cell → List Cell → List Tv → Prop) (a s : Nat), 0 < s → s ≤ 1000000000 → (a + 4 * s ≤ 1000000000 ∨ (n = 3 ∧ a + 2 * s ≤ 1000000000) ∨ (n = 4 ∧ a + 3 * s ≤ 1000000000)) → Tr K [handC K] [] [.bas 0, .d (iD n), .d (iD a), .d (iD s), .any] E (tRet (tLc (iRng1 (tCons (tVar 1) tNil)) (gName 4) tYes (tOp rAdd (tVar 2) (tOp rMul (tVar 4) (tVar 3))) [4])) N (fun b r => b = [handC K] ∧ llR ⟨n, lo, hi⟩ r) (fun _ => False) := by
    intro N a s hs hs2 h
    refine tr_retF (T := (· = isD ((List.range n).map fun k => a + k * s))) ?_ fun ds e => ⟨rfl, (List.range n).map fun k => a + k * s, by simp, labels_ok lo hi hs h, fun i h => ?_, by rw [e]⟩
    · refine pf_map (ds := rgD 0 n) (si_rng1 (pd rfl) (by omega)) (by rw [rgD_len]; omega) (by rw [rgD_len, isD_len]; simp) rfl fun j d hd => ?_
      obtain ⟨hj, rfl⟩ := rgD_get hd
      rw [Nat.zero_add]
      refine ⟨iD (a + j * s), by rw [isD_at (by simpa using hj), bk_map hj], ?_⟩
      refine (pd_op (pd (x := iD a) rfl) (pd_op (pd (x := iD j) rfl) (pd (x := iD s) rfl) (ro_intC (.inl ⟨by omega, by omega⟩))) ro_int).mono fun t e => ?_
      rw [e]
      show Tv.d (.int _) = Tv.d (.int _)
      congr 2
    · have h2 : i + 1 < n := by simpa using h
      rw [bk_map h2, bk_map (by omega), Nat.succ_mul]
      omega
  refine tr_seq (tr_asg (T := fun t => ∃ k : Nat, k < 3 ∧ t = .d (iD k)) (pn_draw rfl (pc_int (i := 3)) (by decide) (by decide)) ?_)
  rintro _ ⟨k, hk, rfl⟩
  refine tr_seq (tr_set pc_int ?_)
  refine tr_seq (tr_ifG (B := fun _ => True) (qt_any (pn_isZero (pn_draw rfl (pc_int (i := 2)) (by decide) (by decide)))) (fun _ => ?_) fun _ => tr_next (rest _ k 1 (by omega) (by omega) (.inl (by omega))))
  refine tr_seq (tr_asg (T := fun t => ∃ k : Nat, k < 100000000 ∧ t = .d (iD k)) (pn_draw rfl (pd_op pc_int pc_int ((ro_intC (i := 10) (j := 8) ⟨by decide, by decide, by decide⟩).mono fun t e => e)) (by decide) (by decide)) ?_)
  rintro _ ⟨a, ha, rfl⟩
  have hq : 225000000 ≤ 900000000 / n ∧ 900000000 / n ≤ 300000000 ∧ (n = 4 → 900000000 / n = 225000000) := by
    rcases (by omega : n = 3 ∨ n = 4) with e | e <;> subst e <;> decide
  refine tr_asg (T := fun t => ∃ k : Nat, k < 900000000 / n ∧ t = .d (iD (1 + k))) (pn_op pc_int (pn_draw (n := 900000000 / n) rfl ?_ (by omega) (by omega)) fun t u e ⟨k, hk, e2⟩ => ?_) ?_
  · refine (pd_op (pd_op pc_int (pd_op pc_int pc_int (ro_intC (i := 10) (j := 8) ⟨by decide, by decide, by decide⟩)) (ro_intC (.inl ⟨by decide, by decide⟩))) (pn_cb (qa_cons pc_int (qa_cons (pd (x := iD n) rfl) qa_nil)) rc_max2) (ro_intC ?_)).mono fun t e => ?_
    · rcases (by omega : n = 3 ∨ n = 4) with e | e <;> subst e <;> exact ⟨by decide, by decide⟩
    · rw [e]
      rcases (by omega : n = 3 ∨ n = 4) with e | e
      · subst e; rfl
      · subst e; rfl
  · rw [e, e2]
    exact ro_int.mono fun z ez => ⟨k, hk, by rw [ez]; show Tv.d (.int (1 + (k : Int))) = Tv.d (.int ((1 + k : Nat) : Int)); congr 2⟩
  · rintro _ ⟨s, hs, rfl⟩
    refine rest _ a (1 + s) (by omega) (by omega) ?_
    rcases (by omega : n = 3 ∨ n = 4) with e | e
    · exact .inr (.inl ⟨e, by omega⟩)
    · have := hq.2.2 e
      exact .inr (.inr ⟨e, by omega⟩)
end
end Z
set_option Elab.async false
set_option linter.all false
set_option maxRecDepth 100000
set_option maxHeartbeats 1000000
namespace Z
open PySem PySem.Spec PyProof.Rows L2
section
variable {P : Program} {w : World} {K : PySem.W.Frag} {bc cs : List Cell} {Γ : List Tv} {E : XK} {N : List Cell → List Cell → List Tv → Prop} {R : List Cell → Rv → Prop} {X : Xv → Prop} {mg : Str → Option Value}
/-! ### _law_renamed_world -/
def nu (r : List Nat) (t : T3) : T3 := (bk r t.1, bk r t.2.1, bk r t.2.2)
def ren (β r : List Nat) (B : T3 → Bool) : T3 → Bool := clo (bk β) ((barL β.length B).map (nu r))
structure RwI where
  β : List Nat
  B : T3 → Bool
  r : List Nat
  bl : Bks β
  cl : Clsd β B
  ok : Row β.length β.length r
theorem row_lt {m k : Nat} {r : List Nat} (h : Row m k r) {i : Nat} (hi : i < k) : bk r i < m := h.2.1 _ (bk_mem (by rw [h.1]; exact hi))
theorem nu_in {m : Nat} {r : List Nat} (h : Row m m r) {t : T3} (ht : In3 m t) : In3 m (nu r t) := ⟨row_lt h ht.1, row_lt h ht.2.1, row_lt h ht.2.2⟩
theorem bar_mem {m : Nat} {B : T3 → Bool} {t : T3} : t ∈ barL m B ↔ In3 m t ∧ B t = true := by
  unfold barL
  rw [List.mem_filter, mem_allT]
theorem ren_ok {β r : List Nat} {B : T3 → Bool} (h : Row β.length β.length r) : ∀ t, t ∈ (barL β.length B).map (nu r) → In3 β.length t := fun t m => by
  obtain ⟨u, hu, rfl⟩ := List.mem_map.mp m
  exact nu_in h (bar_mem.mp hu).1
theorem ren_cl {β r : List Nat} {B : T3 → Bool} (bl : Bks β) (h : Row β.length β.length r) : Clsd β (ren β r B) := clo_clsd bl (ren_ok h)
theorem bar_few {β : List Nat} {B : T3 → Bool} (bl : Bks β) : (barL β.length B).length ≤ 64 := Nat.le_trans (List.length_filter_le _ _) (all_len bl.hi)
abbrev rnTs : RwI → List Tv := fun x => [.d (worldD x.β x.B), .d (rowL x.r)]
abbrev rnR : RwI → Rv → Prop := fun x r => r = .tv (.d (worldD x.β (ren x.β x.r x.B)))
abbrev spRn (K : PySem.W.Frag) : Sp := Pro K [] rnTs rnR
theorem pn_barred {te : TE} {β : List Nat} {B : T3 → Bool} (bl : Bks β) (cl : Clsd β B) (h : Pn K bc cs Γ te (· = .d (worldD β B))) : Pn K bc cs Γ (tCall (spBa K) [] E (tCons te tNil)) (· = .d (.list (barD β.length B))) :=
  pn_call (⟨β, B, bl, cl⟩ : WoI) (qa_cons h qa_nil) (fun t m => by simp at m; rw [m]; trivial) fun r e => by rw [e]; exact ⟨trivial, rfl⟩
theorem tr_law_renamed_world (x : RwI) : Trp K [] E (t_law_renamed_world K (spLt K) (spBa K)) 3 rnTs rnR x := by
  obtain ⟨β, B, r, bl, cl, ok⟩ := x
  have hfew := bar_few (B := B) bl
  refine tr_seq (tr_set (pd_op (pd (x := worldD β B) rfl) pc_int (ro_ixT w_0)) ?_)
  refine tr_seq (tr_set (t := .d (.list (((barL β.length B).map (nu r)).map tD))) (Pf.pd ?_) ?_)
  · refine pf_map (ds := barD β.length B) (si_seqL (pn_barred bl cl (pd rfl))) (by unfold barD; rw [List.length_map]; omega) (by unfold barD; simp) rfl fun j d hd => ?_
    obtain ⟨t, ht, rfl⟩ := ts_at hd
    have hin := (bar_mem.mp (List.mem_of_getElem? ht)).1
    refine ⟨tD (nu r t), by rw [List.getElem?_map, List.getElem?_map, ht]; rfl, ?_⟩
    have e0 : ∀ {k : Int} {n : Nat}, n < β.length → atI [iD t.1, iD t.2.1, iD t.2.2] k = some (iD n) → Pn K [] [] [Tv.d (worldD β B), .d (rowL r), .d (.list (isD β)), .any, .d (tD t)] (tOp (rIxLT K) (tVar 1) (tOp (rIxLT K) (tVar 4) (tC (.int k)))) (· = .d (iD (bk r n))) := by
      intro k n hn hk
      exact pd_op (pd (x := rowL r) rfl) (pd_op (pd (x := tD t) rfl) pc_int (ro_ixT hk)) (ro_ixL (isD_atI (by rw [ok.1]; exact hn)))
    exact pn_t3 (e0 hin.1 t_0) (e0 hin.2.1 t_1) (e0 hin.2.2 t_2)
  · refine tr_retD (x := worldD β (ren β r B)) ?_ ⟨rfl, rfl⟩
    refine pn_tup (ds := [.list (isD β), letD β.length (ren β r B)]) (qa_cons (pd rfl) (qa_cons ?_ qa_nil)) (by simp)
    exact pn_call (T := (· = .d (letD β.length (ren β r B)))) (⟨β, (barL β.length B).map (nu r), bl, ren_ok ok⟩ : ThsI) (qa_cons (pd rfl) (qa_cons (pd rfl) qa_nil)) (fun t m => by simp at m; rcases m with rfl | rfl <;> trivial) fun r e => by rw [e]; exact ⟨trivial, rfl⟩
/-! ### _law_due_between -/
structure DbI where
  β : List Nat
  B : T3 → Bool
  B2 : T3 → Bool
  bl : Bks β
  cl : Clsd β B
  cl2 : Clsd β B2
/-- the couples (t, name of t) -/
def cpl (r : List Nat) : PyData := .tuple ((List.range r.length).map fun t => .tuple [iD t, iD (bk r t)])
def hit (β : List Nat) (B B2 : T3 → Bool) (r : List Nat) : Bool := decide (barL β.length (ren β r B) = barL β.length B2)
def dueD (β : List Nat) (B B2 : T3 → Bool) : PyData := match (namings β).find? (hit β B B2) with
  | none => .none
  | some r => cpl r
abbrev dbTs : DbI → List Tv := fun x => [.d (worldD x.β x.B), .d (worldD x.β x.B2)]
abbrev dbR : DbI → Rv → Prop := fun x r => r = .tv (.d (dueD x.β x.B x.B2))
abbrev spDb (K : PySem.W.Frag) : Sp := Pro K [] dbTs dbR
theorem nam_row {β r : List Nat} (h : r ∈ namings β) : Row β.length β.length r := ord_row (List.mem_filter.mp h).1
theorem barD_inj {m : Nat} {A B : T3 → Bool} : PyData.eqv (.list (barD m A)) (.list (barD m B)) = decide (barL m A = barL m B) := by
  have n1 : ∀ A, nb (.list (barD m A)) = true := fun A => by
    simp only [nb]
    exact nbAll_of fun d h => by
      obtain ⟨t, _, rfl⟩ := List.mem_map.mp h
      rfl
  cases q : decide (barL m A = barL m B) with
  | true =>
    have e := of_decide_eq_true q
    unfold barD
    rw [e]
    exact eqv_self (n1 B)
  | false =>
    refine eqv_ne (n1 A) (n1 B) fun e => ?_
    have e2 : barD m A = barD m B := by injection e
    have : barL m A = barL m B := by
      unfold barD at e2
      exact List.map_inj_right (fun _ _ h => tD_inj h) |>.mp e2
    rw [this] at q
    simp at q
theorem fl_bar {m : Nat} {A : T3 → Bool} : Fl 2 (.list (barD m A)) := fl_list fun d h => by
  obtain ⟨t, _, rfl⟩ := List.mem_map.mp h
  exact fl_t t
theorem find_take {α : Type} {p : α → Bool} {l : List α} {i : Nat} {a : α} (h : l[i]? = some a) (g : ∀ x, x ∈ l.take i → p x = false) (hp : p a = true) : l.find? p = some a := by
  have hi := (List.getElem?_eq_some_iff.mp h).1
  have e : l = l.take i ++ (a :: l.drop (i + 1)) := by
    have h2 : l.drop i = a :: l.drop (i + 1) := by
      rw [List.drop_eq_getElem_cons hi]
      congr 1
      exact Option.some.inj (by rw [← List.getElem?_eq_getElem hi]; exact h)
    rw [← h2, List.take_append_drop]
  rw [e, List.find?_append, List.find?_eq_none.mpr (by intro x hx; rw [g x hx]; simp), Option.none_or, List.find?_cons, hp]
theorem tr_law_due_between (x : DbI) : Trp K [] E (t_law_due_between K (spNa K) (spBa K) (spRn K)) 2 dbTs dbR x := by
  obtain ⟨β, B, B2, bl, cl, cl2⟩ := x
  refine tr_seq (tr_for (T := (· = (namings β).map rowL)) (si_seqL (pn_call (T := (· = .d (.list ((namings β).map rowL)))) (⟨β, bl⟩ : BksI) (qa_cons (pd_op (pd (x := worldD β B) rfl) pc_int (ro_ixT w_0)) qa_nil) (fun t m => by simp at m; rw [m]; trivial) fun r e => by rw [e]; exact ⟨trivial, rfl⟩)) (fun _ i b c γ => b = [] ∧ c = [] ∧ Wk γ [.d (worldD β B), .d (worldD β B2), .any, .any] ∧ ∀ r, r ∈ (namings β).take i → hit β B B2 r = false) (fun ds e => ⟨rfl, rfl, Wk.refl _, fun r m => by simp at m⟩) ?_ ?_)
  · rintro ds i d b c γ rfl hd ⟨rfl, rfl, hw, hn⟩
    obtain ⟨r, hr, rfl⟩ := map_at hd
    have hrow := nam_row (List.mem_of_getElem? hr)
    refine ⟨_, _, tg_name, tr_wk (wk_set hw) ?_⟩
    refine tr_if (b := hit β B B2 r) (qt_of ?_) (fun hb => ?_) fun hb => tr_next ⟨rfl, rfl, ⟨.inr rfl, .inr rfl, .inl rfl, .inr rfl, trivial⟩, fun r' m => ?_⟩
    · unfold hit
      rw [← barD_inj]
      refine pd_op (pn_barred bl (ren_cl (B := B) bl hrow) ?_) (pn_barred bl cl2 (pd rfl)) (ro_eq (fl_bar.sh (by decide)) (fl_bar.sh (by decide)))
      exact pn_call (T := (· = .d (worldD β (ren β r B)))) (⟨β, B, r, bl, cl, hrow⟩ : RwI) (qa_cons (pd rfl) (qa_cons (pd rfl) qa_nil)) (fun t m => by simp at m; rcases m with rfl | rfl <;> trivial) fun r e => by rw [e]; exact ⟨trivial, rfl⟩
    · refine tr_retD (x := cpl r) ?_ ⟨rfl, ?_⟩
      · refine pn_tupL (ds := (List.range r.length).map fun t => .tuple [iD t, iD (bk r t)]) (Pf.pd ?_) (.d _)
        have hl : Pn K [] [] [.d (worldD β B), .d (worldD β B2), .d (rowL r), .any] (tCB (rLen K) (tCons (tVar 2) tNil)) (· = .d (iD r.length)) := by
          rw [← isD_len (l := r)]
          exact pn_lenD (pd rfl)
        have hm := bl.hi
        have hrl := hrow.1
        refine pf_map (ds := rgD 0 r.length) (si_rng1 hl (by omega)) (by rw [rgD_len]; omega) (by rw [rgD_len]; simp) rfl fun j d hd => ?_
        obtain ⟨hj, rfl⟩ := rgD_get hd
        rw [Nat.zero_add]
        exact ⟨_, range_map_at hj, pn_tup (ds := [iD j, iD (bk r j)]) (qa_cons (pd rfl) (qa_cons (pd_op (pd (x := rowL r) rfl) (pd rfl) (ro_ixL (isD_atI hj))) qa_nil)) (by simp)⟩
      · show _ = Rv.tv (.d (dueD β B B2))
        unfold dueD
        rw [find_take hr hn hb]
    · rw [take_succ hr] at m
      rcases List.mem_append.mp m with q | q
      · exact hn r' q
      · rw [List.mem_singleton.mp q]; exact hb
  · rintro ds b c γ rfl ⟨rfl, rfl, hw, hn⟩
    rw [List.length_map, List.take_length] at hn
    refine tr_wk hw (tr_retD (x := .none) pc_non ⟨rfl, ?_⟩)
    show _ = Rv.tv (.d (dueD β B B2))
    unfold dueD
    rw [List.find?_eq_none.mpr (by intro x hx; rw [hn x hx]; simp)]
/-! ### _law_fits -/
/-- what a drawn table is -/
structure Tab (β : List Nat) (n : Nat) (f : Nat → Nat → Nat) : Prop where
  lt : ∀ i j, j < i → i < n → f i j < β.length
  up : ∀ i j, j < i → i < n → f j i = bk β (f i j)
structure FiI where
  β : List Nat
  B : T3 → Bool
  n : Nat
  f : Nat → Nat → Nat
  bl : Bks β
  few : n ≤ 4
  tab : Tab β n f
def fits (B : T3 → Bool) (n : Nat) (f : Nat → Nat → Nat) : Prop := ∀ i j k, k < j → j < i → i < n → B (f i j, f j k, f i k) = false
abbrev fiTs : FiI → List Tv := fun x => [.d (worldD x.β x.B), .d (tabD x.n x.f)]
abbrev fiR : FiI → Rv → Prop := fun x r => ∃ v, r = .tv (.d (.bool v)) ∧ (v = true ↔ fits x.B x.n x.f)
abbrev spFi (K : PySem.W.Frag) : Sp := Pro K [] fiTs fiR
theorem tab_at {n i j : Nat} {f : Nat → Nat → Nat} (hj : j < n) (ne : i ≠ j) : atI (tabRow n f i) (j : Int) = some (iD (f i j)) := by
  refine atI_nat' ?_
  unfold tabRow
  rw [range_map_at hj, if_neg ne]
theorem pn_tab {te ti tj : TE} {n i j : Nat} {f : Nat → Nat → Nat} (hi : i < n) (hj : j < n) (ne : i ≠ j) (h : Pn K bc cs Γ te (· = .d (tabD n f))) (g : Pn K bc cs Γ ti (· = .d (iD i))) (g2 : Pn K bc cs Γ tj (· = .d (iD j))) : Pn K bc cs Γ (tOp (rIxLT K) (tOp (rIxLT K) te ti) tj) (· = .d (iD (f i j))) :=
  pd_op (pd_op h g (ro_ixL (atI_nat' (range_map_at hi)))) g2 (ro_ixL (tab_at hj ne))
theorem tr_law_fits (x : FiI) : Trp K [] E (t_law_fits K) 5 fiTs fiR x := by
  obtain ⟨β, B, n, f, bl, few, tab⟩ := x
  have hz : n ≤ 1000000 := by omega
  refine tr_seq (tr_asgG (pd (x := worldD β B) rfl) tg_2 ?_)
  refine tr_seq (tr_for (si_rng1 (n := n) (tab_len (pd rfl)) hz) (fun _ i b c γ => b = [] ∧ c = [] ∧ Wk γ [.d (worldD β B), .d (tabD n f), .d (.list (isD β)), .d (letD β.length B), .any, .any, .any] ∧ ∀ i' j k, k < j → j < i' → i' < i → B (f i' j, f j k, f i' k) = false) (fun ds e => ⟨rfl, rfl, Wk.refl _, fun i' j k _ _ h => absurd h (Nat.not_lt_zero _)⟩) ?_ ?_)
  · rintro ds i d b c γ rfl hd ⟨rfl, rfl, hw, hI⟩
    obtain ⟨hi, rfl⟩ := rgD_get hd
    rw [Nat.zero_add]
    refine ⟨_, _, tg_name, tr_wk (wk_set hw) ?_⟩
    refine tr_for (si_rng1 (n := i) (pd rfl) (by omega)) (fun _ j b c γ => b = [] ∧ c = [] ∧ Wk γ [.d (worldD β B), .d (tabD n f), .d (.list (isD β)), .d (letD β.length B), .d (iD i), .any, .any] ∧ ∀ j' k, k < j' → j' < j → B (f i j', f j' k, f i k) = false) (fun ds e => ⟨rfl, rfl, ⟨.inr rfl, .inr rfl, .inr rfl, .inr rfl, .inr rfl, .inr rfl, .inr rfl, trivial⟩, fun j' k _ h => absurd h (Nat.not_lt_zero _)⟩) ?_ ?_
    · rintro ds j d b c γ rfl hd ⟨rfl, rfl, hw, hJ⟩
      obtain ⟨hj, rfl⟩ := rgD_get hd
      rw [Nat.zero_add]
      refine ⟨_, _, tg_name, tr_wk (wk_set hw) ?_⟩
      have f1 := tab.lt i j hj hi
      refine tr_seq (tr_skip1 (qt_of (pd_op (pn_tab (by omega : j < n) hi (by omega) (pd rfl) (pd rfl) (pd rfl)) (pd_op (pd rfl) (pn_tab hi (by omega : j < n) (by omega) (pd rfl) (pd rfl) (pd rfl)) (ro_ixL (isD_atI f1))) (ro_ne sh_int sh_int))) (by rw [tab.up i j hj hi, eqv_int]; simp) ?_)
      refine tr_for (si_rng1 (n := j) (pd rfl) (by omega)) (fun _ k b c γ => b = [] ∧ c = [] ∧ Wk γ [.d (worldD β B), .d (tabD n f), .d (.list (isD β)), .d (letD β.length B), .d (iD i), .d (iD j), .any] ∧ ∀ k', k' < k → B (f i j, f j k', f i k') = false) (fun ds e => ⟨rfl, rfl, ⟨.inr rfl, .inr rfl, .inr rfl, .inr rfl, .inr rfl, .inr rfl, .inr rfl, trivial⟩, fun k' h => absurd h (Nat.not_lt_zero _)⟩) ?_ ?_
      · rintro ds k d b c γ rfl hd ⟨rfl, rfl, hw, hK⟩
        obtain ⟨hk, rfl⟩ := rgD_get hd
        rw [Nat.zero_add]
        refine ⟨_, _, tg_name, tr_wk (wk_set hw) ?_⟩
        have f2 := tab.lt j k hk (by omega)
        have f3 := tab.lt i k (by omega) hi
        refine tr_if (qt_not (qt_B (pn_let (t := (f i j, f j k, f i k)) ⟨f1, f2, f3⟩ (pd rfl) (pn_tab hi (by omega : j < n) (by omega) (pd rfl) (pd rfl) (pd rfl)) (pn_tab (by omega : j < n) (by omega : k < n) (by omega) (pd rfl) (pd rfl) (pd rfl)) (pn_tab hi (by omega : k < n) (by omega) (pd rfl) (pd rfl) (pd rfl))))) (fun hb => ?_) fun hb => tr_next ⟨rfl, rfl, ⟨.inr rfl, .inr rfl, .inr rfl, .inr rfl, .inr rfl, .inr rfl, .inl rfl, trivial⟩, fun k' hk' => ?_⟩
        · have hb' : B (f i j, f j k, f i k) = true := by simpa using hb
          refine tr_retD (x := .bool false) pc_bl ⟨rfl, false, rfl, ⟨fun h => (by cases h), fun h => ?_⟩⟩
          have h2 : B (f i j, f j k, f i k) = false := h i j k hk hj hi
          rw [h2] at hb'
          cases hb'
        · by_cases e : k' = k
          · rw [e]; simpa using hb
          · exact hK k' (by omega)
      · rintro ds b c γ rfl ⟨rfl, rfl, hw, hK⟩
        rw [rgD_len] at hK
        refine ⟨rfl, rfl, wk_trans hw ⟨.inr rfl, .inr rfl, .inr rfl, .inr rfl, .inr rfl, .inl rfl, .inr rfl, trivial⟩, fun j' k hk hj' => ?_⟩
        by_cases e : j' = j
        · rw [e] at hk ⊢; exact hK k hk
        · exact hJ j' k hk (by omega)
    · rintro ds b c γ rfl ⟨rfl, rfl, hw, hJ⟩
      rw [rgD_len] at hJ
      refine ⟨rfl, rfl, wk_trans hw ⟨.inr rfl, .inr rfl, .inr rfl, .inr rfl, .inl rfl, .inr rfl, .inr rfl, trivial⟩, fun i' j k hk hj hi' => ?_⟩
      by_cases e : i' = i
      · rw [e] at hj ⊢; exact hJ j k hk hj
      · exact hI i' j k hk hj (by omega)
  · rintro ds b c γ rfl ⟨rfl, rfl, hw, hI⟩
    rw [rgD_len] at hI
    exact tr_wk hw (tr_retD (x := .bool true) pc_bl ⟨rfl, true, rfl, ⟨fun _ => hI, fun _ => rfl⟩⟩)
end
end Z
set_option Elab.async false
set_option linter.all false
set_option maxRecDepth 100000
set_option maxHeartbeats 4000000
namespace Z
open PySem PySem.Spec PyProof.Rows L2
open StX (tStar pa_star)
open RZ (iZipA pi_zipA ItzT)
theorem sc_law_plain : FnScope ["_law_answer", "_law_due_here", "_law_one", "_law_other"] ["_law_answer", "_law_due_here"] (defScope s_law_plain) := ⟨rfl, rfl, rfl, by decide +kernel, rfl, by decide +kernel, by decide +kernel⟩
def t_law_plain (K : PySem.W.Frag) (sp_law_plain : Sp) : TS :=
    (tSeq (tIfS (tB (tCB (rIsi K) (tCons (tVar 1) (tCons (tC (.ty "tuple")) tNil))))
    (tSeq (tIfS (tOr (tNot (tB (tCB (rIsi K) (tCons (tVar 0) (tCons (tC (.ty "tuple")) tNil))))) (tTest (tOp (rNeD K) (tCB (rLen K) (tCons (tVar 0) tNil)) (tCB (rLen K) (tCons (tVar 1) tNil)))))
    (tRet (tC (.bl false)))
    tNext)
    (tSeq (tFor (iZipA K (tCons (tVar 0) (tCons (tVar 1) tNil))) (gTup K 2 (gCons (gName 2) (gCons (gName 3) gNil)))
    (tIfS (tNot (tB (tCall sp_law_plain [] E0 (tCons (tVar 2) (tCons (tVar 3) tNil)))))
    (tRet (tC (.bl false)))
    tNext))
    (tRet (tC (.bl true)))))
    tNext)
    (tSeq (tIfS (tTest (tOp rIs (tVar 1) (tC .non)))
    (tRet (tOp rIs (tVar 0) (tC .non)))
    tNext)
    (tSeq (tIfS (tOr (tB (tCB (rIsi K) (tCons (tVar 1) (tCons (tC (.ty "bool")) tNil)))) (tB (tCB (rIsi K) (tCons (tVar 0) (tCons (tC (.ty "bool")) tNil)))))
    (tRet (tAndV (tCB (rIsi K) (tCons (tVar 1) (tCons (tC (.ty "bool")) tNil))) (tAndV (tCB (rIsi K) (tCons (tVar 0) (tCons (tC (.ty "bool")) tNil))) (tOp (rEqD K) (tVar 0) (tVar 1)))))
    tNext)
    (tSeq (tIfS (tB (tCB (rIsi K) (tCons (tVar 1) (tCons (tC (.ty "int")) tNil))))
    (tRet (tAndV (tCB (rIsi K) (tCons (tVar 0) (tCons (tC (.ty "int")) tNil))) (tOp (rEqD K) (tVar 0) (tVar 1))))
    tNext)
    (tRet (tAndV (tCB (rIsi K) (tCons (tVar 0) (tCons (tC (.ty "str")) tNil))) (tOp (rEqD K) (tVar 0) (tVar 1))))))))
/-- a call that promises nothing -/
theorem ok_law_plain0 {P : Program} {w : World} {K : PySem.W.Frag} {mg : Str → Option Value} {base : Heap} (T : Tx K mg) : Cal P w K mg base CX0 3 "_law_plain" ["_law_answer", "_law_due_here"] (fun _ _ _ _ => False) := by
  obtain ⟨fd, F⟩ := T.F_law_plain
  have b : Binds K fd ["_law_answer", "_law_due_here"] [] := F.bindsN fun _ _ _ _ _ _ us hl => match us, hl with | [_, _], _ => rfl
  refine ⟨⟨fd, ?_, b⟩, F.kp, T.g_law_plain⟩
  exact FunD.ok F sc_law_plain (fun _ _ _ _ h => h.elim) fun cdv A outer s H vs Q E hr h => h.elim
theorem ok_law_plain {P : Program} {w : World} {K : PySem.W.Frag} {mg : Str → Option Value} {base : Heap} (T : Tx K mg) {lv : Nat} {sp_law_plain : Sp} (C_law_plain : Cal P w K mg base CX0 (lv + 3) "_law_plain" ["_law_answer", "_law_due_here"] sp_law_plain) {sp : Sp} (hl : ∀ vs H Q E, sp vs H Q E → vs.length = 2)
    (tr : ∀ vs H Q E, sp vs H Q E → t_law_plain K sp_law_plain { nx := fun _ H' => Q .non H', rt := Q } (L2.start ["_law_answer", "_law_due_here", "_law_one", "_law_other"] vs) H) :
    Cal P w K mg base CX0 (lv + 4) "_law_plain" ["_law_answer", "_law_due_here"] sp := by
  obtain ⟨fd, F⟩ := T.F_law_plain
  have b : Binds K fd ["_law_answer", "_law_due_here"] [] := F.bindsN fun _ _ _ _ _ _ us hl => match us, hl with | [_, _], _ => rfl
  refine ⟨⟨fd, ?_, b⟩, F.kp, T.g_law_plain⟩
  refine FunD.ok F sc_law_plain hl fun cdv A outer s H vs Q E hr h => ⟨_, PSs.nox ?_, tr vs H Q E h⟩
  have hr_law_plain : Room (lv + 3) _ := hr.mono (by omega)
  have hu64 := hr.units
  unfold t_law_plain
  exact (pss_cons (ps_if (pt_val (pe_callB call_isi (by rfl) T.f_isinstance PyProof.Rows.boot_isinstance (pa_cons (pv 1) (pa_cons (pe_bltn (v := .ty "tuple") (u := .type "tuple") (by rfl) T.f_tuple (by decide +kernel) (by rfl)) pa_nil)))) (pss_cons (ps_if (PW.pt (pw_or (pt_not (pt_val (pe_callB call_isi (by rfl) T.f_isinstance PyProof.Rows.boot_isinstance (pa_cons (pv 0) (pa_cons (pe_bltn (v := .ty "tuple") (u := .type "tuple") (by rfl) T.f_tuple (by decide +kernel) (by rfl)) pa_nil))))) (pw_or1 (pt_cmpR (op_neD hu64) (pe_callB call_len (by rfl) T.f_len PySem.boot_len (pa_cons (pv 0) pa_nil)) (pe_callB call_len (by rfl) T.f_len PySem.boot_len (pa_cons (pv 1) pa_nil)) (nomark _))))) (pss_one (ps_ret pe_bl)) pss_nil)
    (pss_cons (ps_for PassesOwn.never rfl (pi_zipA (by rfl) T.f_zip (pa_cons (pv 0) (pa_cons (pv 1) pa_nil))) (pg_tup rfl (pgs_cons (pg_name (i := 2) sc_law_plain.nd rfl (by first | exact Or.inl rfl | exact Or.inr rfl)) (pgs_cons (pg_name (i := 3) sc_law_plain.nd rfl (by first | exact Or.inl rfl | exact Or.inr rfl)) pgs_nil))) (pss_one (ps_if (pt_not (pt_val (pe_cal C_law_plain hr_law_plain (by rfl) pass0 (pa_cons (pv 2) (pa_cons (pv 3) pa_nil))))) (pss_one (ps_ret pe_bl)) pss_nil)))
    (pss_one (ps_ret pe_bl)))) pss_nil)
    (pss_cons (ps_if (pt_cmpR op_isN (pv 1) pe_non (nomark _)) (pss_one (ps_ret (pe_cmpR op_isN (pv 0) pe_non (nomark _)))) pss_nil)
    (pss_cons (ps_if (PW.pt (pw_or (pt_val (pe_callB call_isi (by rfl) T.f_isinstance PyProof.Rows.boot_isinstance (pa_cons (pv 1) (pa_cons (pe_bltn (v := .ty "bool") (u := .type "bool") (by rfl) T.f_bool (by decide +kernel) (by rfl)) pa_nil)))) (pw_or1 (pt_val (pe_callB call_isi (by rfl) T.f_isinstance PyProof.Rows.boot_isinstance (pa_cons (pv 0) (pa_cons (pe_bltn (v := .ty "bool") (u := .type "bool") (by rfl) T.f_bool (by decide +kernel) (by rfl)) pa_nil))))))) (pss_one (ps_ret (pe_and (pe_callB call_isi (by rfl) T.f_isinstance PyProof.Rows.boot_isinstance (pa_cons (pv 1) (pa_cons (pe_bltn (v := .ty "bool") (u := .type "bool") (by rfl) T.f_bool (by decide +kernel) (by rfl)) pa_nil))) (pe_and (pe_callB call_isi (by rfl) T.f_isinstance PyProof.Rows.boot_isinstance (pa_cons (pv 0) (pa_cons (pe_bltn (v := .ty "bool") (u := .type "bool") (by rfl) T.f_bool (by decide +kernel) (by rfl)) pa_nil))) (pe_one (pe_cmpR (op_eqD hu64) (pv 0) (pv 1) (nomark _))))))) pss_nil)
    (pss_cons (ps_if (pt_val (pe_callB call_isi (by rfl) T.f_isinstance PyProof.Rows.boot_isinstance (pa_cons (pv 1) (pa_cons (pe_bltn (v := .ty "int") (u := .type "int") (by rfl) T.f_int (by decide +kernel) (by rfl)) pa_nil)))) (pss_one (ps_ret (pe_and (pe_callB call_isi (by rfl) T.f_isinstance PyProof.Rows.boot_isinstance (pa_cons (pv 0) (pa_cons (pe_bltn (v := .ty "int") (u := .type "int") (by rfl) T.f_int (by decide +kernel) (by rfl)) pa_nil))) (pe_one (pe_cmpR (op_eqD hu64) (pv 0) (pv 1) (nomark _)))))) pss_nil)
    (pss_one (ps_ret (pe_and (pe_callB call_isi (by rfl) T.f_isinstance PyProof.Rows.boot_isinstance (pa_cons (pv 0) (pa_cons (pe_bltn (v := .ty "str") (u := .type "str") (by rfl) T.f_str (by decide +kernel) (by rfl)) pa_nil))) (pe_one (pe_cmpR (op_eqD hu64) (pv 0) (pv 1) (nomark _))))))))))
section
variable {P : Program} {w : World} {K : PySem.W.Frag} {bc cs : List Cell} {Γ : List Tv} {E : XK} {N : List Cell → List Cell → List Tv → Prop} {R : List Cell → Rv → Prop} {X : Xv → Prop} {mg : Str → Option Value}
theorem walk_zipT {K : PySem.W.Frag} {a b : Addr} {xs ys : List V} {n : Nat} (h1 : n = xs.length) (h2 : n = ys.length) : Walk (ItzT K a b) n (fun H => SqT K H a xs ∧ SqT K H b ys) (YPair (fun i => xs[i]?) (fun i => ys[i]?)) := by
  subst h1
  refine ⟨fun i _ hi q => ⟨xs, ys, xs[i], ys[i], q.1, q.2, by simp [hi], by simp [h2 ▸ hi]⟩, fun _ q => ⟨xs, ys, q.1, q.2, .inl (Nat.le_refl _)⟩, fun i H v H' _ q y => ?_⟩
  obtain ⟨T, x, z, h1, h2, h3, h4, h5⟩ := y
  exact ⟨T, x, z, h1, h2, h3, h4 xs q.1, h5 ys q.2⟩
/-- the couples of two tuples of one length -/
def zpD (ds : List PyData) : List PyData := ds.map fun d => .tuple [d, d]
theorem zpD_len {ds : List PyData} : (zpD ds).length = ds.length := by simp [zpD]
theorem zpD_get {ds : List PyData} {i : Nat} {d : PyData} (h : (zpD ds)[i]? = some d) : ∃ x, ds[i]? = some x ∧ d = .tuple [x, x] := by
  unfold zpD at h
  rw [List.getElem?_map] at h
  cases e : ds[i]? with
  | none => rw [e] at h; cases h
  | some x => rw [e] at h; exact ⟨x, rfl, (Option.some.inj h).symm⟩
theorem si_zip2 {M bs ls : List Addr} {H1 : Hp} {vs us : List V} {ds : List PyData} (ha : DqAll K (hid (ls ++ (bs ++ M)) H1) vs ds) (hb : DqAll K (hid (ls ++ (bs ++ M)) H1) us ds) : ∀ i H2 x H3, i < (zpD ds).length → Ex (hid (ls ++ (bs ++ M)) H1) H2 → YPair (fun i => vs[i]?) (fun i => us[i]?) i H2 x H3 →
    Ex H2 H3 ∧ ∃ d, (zpD ds)[i]? = some d ∧ ∀ W', Ex (hid (ls ++ (bs ++ M)) H1) (hid W' H2) → (∀ a, a ∈ W' → H2 a ≠ none) → Dq K (hid W' H3) x d := by
  rintro i H2 x H3 hi e ⟨T, y, z, rfl, nT, rfl, h1, h2⟩
  rw [zpD_len] at hi
  have ex := ex_upd (H := H2) (o := .tup [y, z]) nT
  have d1 := DqAll.getV ha h1
  have d2 := DqAll.getV hb h2
  obtain ⟨d, hd, hyd⟩ := d1
  obtain ⟨d', hd', hzd⟩ := d2
  rw [hd] at hd'
  cases hd'
  refine ⟨ex, .tuple [d, d], ?_, fun W' g old => ?_⟩
  · unfold zpD
    rw [List.getElem?_map, hd]
    rfl
  · have nW : T ∉ W' := fun m => old T m nT
    have ex' : Ex (hid W' H2) (hid W' (upd H2 T (.tup [y, z]))) := hid_sub (fun _ h => h) fun b o _ e => ex b o e
    refine .tup (xs := [y, z]) ?_ (.cons (Dq.ex ex' _ _ (Dq.ex g _ _ hyd)) (.cons (Dq.ex ex' _ _ (Dq.ex g _ _ hzd)) .nil))
    rw [hid_of nW, upd_same]
theorem si_zipT {ta tb : TE} {ds : List PyData} (h : Pn K bc cs Γ ta (· = .d (.tuple ds))) (g : Pn K bc cs Γ tb (· = .d (.tuple ds))) : Si K bc cs Γ (iZipA K (tCons ta (tCons tb tNil))) (· = zpD ds) := fun M bs ls σ H S R q =>
  h M bs ls σ H S _ fun t v H1 ht S1 k1 hv => g M bs ls σ H1 S1 _ fun u x H2 hu S2 k2 hx => by
    subst ht hu
    have hv2 := hv.ex k2.ex
    cases hv2 with
    | tup hs ha =>
      rename_i a vs
      cases hx with
      | tup hs2 hb =>
        rename_i b us
        have l1 := DqAll.len ha
        have l2 := DqAll.len hb
        exact ⟨a, b, vs, us, rfl, .inr ⟨SqT.of (hid_ex _ _ hs), SqT.of (hid_ex _ _ hs2), q _ _ H2 _ _ rfl S2 (k1.trans k2) (walk_zipT (by rw [zpD_len, l1]) (by rw [zpD_len, l2])) (fun H3 e => ⟨SqT.of (e _ _ hs), SqT.of (e _ _ hs2)⟩) (si_zip2 ha hb)⟩⟩
/-- data of tuples, of so many levels -/
inductive Pl : Nat → PyData → Prop
  | non {n : Nat} : Pl n .none
  | bl {n : Nat} (b : Bool) : Pl n (.bool b)
  | int {n : Nat} (i : Int) : Pl n (.int i)
  | tup {n : Nat} {ds : List PyData} : (∀ d, d ∈ ds → Pl n d) → ds.length ≤ 1000 → Pl (n + 1) (.tuple ds)
abbrev PlI (n : Nat) : Type := { d : PyData // Pl n d }
abbrev plTs (n : Nat) : PlI n → List Tv := fun x => [.d x.1, .d x.1]
abbrev plR (n : Nat) : PlI n → Rv → Prop := fun _ r => r = .tv (.d (.bool true))
abbrev spPl (K : PySem.W.Frag) : Nat → Sp
  | 0 => fun _ _ _ _ => False
  | n + 1 => Pro K [] (plTs n) (plR n)
theorem pn_isiU {te : TE} {d : PyData} {T : String} {b : Bool} (U : String) (h : Pn K bc cs Γ te (· = .d d)) (hu : tyD d = U) (hb : kitB U T = some b) : Pn K bc cs Γ (tCB (rIsi K) (tCons te (tCons (tC (.ty T)) tNil))) (· = .d (.bool b)) :=
  pn_cb (qa_cons h (qa_cons pc_v qa_nil)) (rc_isi (by rw [hu]; exact hb))
theorem pl_dn : ∀ {n : Nat} {ds : List PyData}, Pl n (.tuple ds) → ∃ k, n = k + 1 ∧ (∀ d, d ∈ ds → Pl k d) ∧ ds.length ≤ 1000
  | _, _, .tup h g => ⟨_, rfl, h, g⟩
theorem tr_law_plain (n : Nat) (x : PlI n) : Trp K [] E (t_law_plain K (spPl K n)) 2 (plTs n) (plR n) x := by
  obtain ⟨d, hd⟩ := x
  cases d with
  | tuple ds =>
    obtain ⟨k, rfl, hk, hz⟩ := pl_dn hd
    refine tr_seq (tr_if (qt_B (pn_isiU (b := true) "tuple" (pd (x := .tuple ds) rfl) rfl (by decide +kernel))) (fun _ => ?_) fun h => (by cases h))
    refine tr_seq (tr_skip1 (qt_or (qt_not (qt_B (pn_isiU (b := true) "tuple" (pd (x := .tuple ds) rfl) rfl (by decide +kernel)))) fun _ => qt_of (pd_op (pn_lenT (pd (x := .tuple ds) rfl)) (pn_lenT (pd (x := .tuple ds) rfl)) (ro_ne sh_int sh_int))) (by rw [eqv_int]; simp) ?_)
    refine tr_seq (tr_for (si_zipT (pd (x := .tuple ds) rfl) (pd (x := .tuple ds) rfl)) (fun _ i b c γ => b = [] ∧ c = [] ∧ Wk γ [.d (.tuple ds), .d (.tuple ds), .any, .any]) (fun ds e => ⟨rfl, rfl, Wk.refl _⟩) ?_ ?_)
    · rintro es i d b c γ rfl he ⟨rfl, rfl, hw⟩
      obtain ⟨y, hy, rfl⟩ := zpD_get he
      refine ⟨_, _, tg_2, tr_wk (wk_set (wk_set hw)) ?_⟩
      refine tr_skip1 (b := !true) (qt_not (qt_B ?_)) rfl ⟨rfl, rfl, ⟨.inr rfl, .inr rfl, .inl rfl, .inl rfl, trivial⟩⟩
      exact pn_call (T := (· = .d (.bool true))) (⟨y, hk y (List.mem_of_getElem? hy)⟩ : PlI k) (qa_cons (pd rfl) (qa_cons (pd rfl) qa_nil)) (fun t m => by simp at m; rw [m]; trivial) fun r e => by rw [e]; exact ⟨trivial, rfl⟩
    · rintro es b c γ rfl ⟨rfl, rfl, hw⟩
      exact tr_wk hw (tr_retD (x := .bool true) pc_bl ⟨rfl, rfl⟩)
  | none =>
    refine tr_seq (tr_skip1 (qt_B (pn_isiU (b := false) "NoneType" (pd (x := .none) rfl) rfl (by decide +kernel))) rfl ?_)
    refine tr_seq (tr_if (b := true) (qt_of (pd_op (pd (x := .none) rfl) pc_non ro_is)) (fun _ => ?_) fun h => (by cases h))
    exact tr_retD (x := .bool true) (pd_op (pd (x := .none) rfl) pc_non ro_is) ⟨rfl, rfl⟩
  | bool v =>
    refine tr_seq (tr_skip1 (qt_B (pn_isiU (b := false) "bool" (pd (x := .bool v) rfl) rfl (by decide +kernel))) rfl ?_)
    refine tr_seq (tr_skip1 (b := false) (qt_of (pd_op (pd (x := .bool v) rfl) pc_non ro_is)) rfl ?_)
    refine tr_seq (tr_if (b := (true || true)) (qt_or (qt_B (pn_isiU (b := true) "bool" (pd (x := .bool v) rfl) rfl (by decide +kernel))) fun h => (by cases h)) (fun _ => ?_) fun h => (by cases h))
    refine tr_retD (x := .bool (true && (true && PyData.eqv (.bool v) (.bool v)))) (pn_andV (pn_isiU "bool" (pd (x := .bool v) rfl) rfl (by decide +kernel)) fun _ => pn_andV (pn_isiU "bool" (pd (x := .bool v) rfl) rfl (by decide +kernel)) fun _ => pd_op (pd (x := .bool v) rfl) (pd (x := .bool v) rfl) (ro_eq (fl_bool (n := 0) |>.sh (by decide)) (fl_bool (n := 0) |>.sh (by decide)))) ⟨rfl, ?_⟩
    cases v <;> rfl
  | int v =>
    refine tr_seq (tr_skip1 (qt_B (pn_isiU (b := false) "int" (pd (x := .int v) rfl) rfl (by decide +kernel))) rfl ?_)
    refine tr_seq (tr_skip1 (b := false) (qt_of (pd_op (pd (x := .int v) rfl) pc_non ro_is)) rfl ?_)
    refine tr_seq (tr_skip1 (b := (false || false)) (qt_or (qt_B (pn_isiU (b := false) "int" (pd (x := .int v) rfl) rfl (by decide +kernel))) fun _ => qt_B (pn_isiU (b := false) "int" (pd (x := .int v) rfl) rfl (by decide +kernel))) rfl ?_)
    refine tr_seq (tr_if (b := true) (qt_B (pn_isiU (b := true) "int" (pd (x := .int v) rfl) rfl (by decide +kernel))) (fun _ => ?_) fun h => (by cases h))
    refine tr_retD (x := .bool (true && PyData.eqv (.int v) (.int v))) (pn_andV (pn_isiU "int" (pd (x := .int v) rfl) rfl (by decide +kernel)) fun _ => pd_op (pd (x := .int v) rfl) (pd (x := .int v) rfl) (ro_eq sh_int sh_int)) ⟨rfl, ?_⟩
    rw [eqv_int]
    simp
  | str v => cases hd
  | list v => cases hd
  | dict v => cases hd
/-- equal data, once asked -/
theorem pn_plain {n : Nat} {ta tb : TE} {d : PyData} (hd : Pl n d) (h : Pn K bc cs Γ ta (· = .d d)) (g : Pn K bc cs Γ tb (· = .d d)) : Pn K bc cs Γ (tCall (spPl K (n + 1)) [] E (tCons ta (tCons tb tNil))) (· = .d (.bool true)) :=
  pn_call (T := (· = .d (.bool true))) (⟨d, hd⟩ : PlI n) (qa_cons h (qa_cons g qa_nil)) (fun t m => by simp at m; rw [m]; trivial) fun r e => by rw [e]; exact ⟨trivial, rfl⟩
theorem pl_ints {n : Nat} {l : List Nat} (h : l.length ≤ 1000) : Pl (n + 1) (.tuple (isD l)) := .tup (fun d m => by
  obtain ⟨i, rfl⟩ := isD_mem m
  exact .int _) (by rw [isD_len]; exact h)
theorem pl_t (t : T3) : Pl 1 (tD t) := .tup (fun d m => by
  simp at m
  rcases m with rfl | rfl | rfl <;> exact .int _) (by simp)
theorem pl_bar {β : List Nat} {B : T3 → Bool} (bl : Bks β) : Pl 2 (.tuple (barD β.length B)) := .tup (fun d m => by
  obtain ⟨t, _, rfl⟩ := List.mem_map.mp m
  exact pl_t t) (by unfold barD; rw [List.length_map]; have := bar_few (B := B) bl; omega)
/-! ### _law_same_barred -/
abbrev sbTs (K : PySem.W.Frag) : WoI → List Tv := fun x => [.sem (bookS K x.β x.B), .d (worldD x.β x.B)]
abbrev sbR : WoI → Rv → Prop := fun x r => r = .tv (.d (.bool true))
abbrev spSb (K : PySem.W.Frag) : Sp := Pro K [] (sbTs K) sbR
theorem tr_law_same_barred (T : Tx K mg) (x : WoI) : Trp K [] E (t_law_same_barred K (spBa K) (spPl K 3)) 1 (sbTs K) sbR x := by
  obtain ⟨β, B, bl, cl⟩ := x
  have hm := bl.hi
  refine tr_seq (tr_set (pn_tupL (pn_barred bl cl (pd rfl)) (.d _)) ?_)
  refine tr_retD (x := .bool (true && (true && true))) (pn_andV (pn_isiO (ps (s := bookS K β B) rfl) T.c_Book T.isB) fun _ => pn_andV (pn_plain (pl_bar bl) (pn_bBar T (ps rfl)) (pd rfl)) fun _ => pn_plain (pl_ints (n := 1) (l := β) (by omega)) (pn_ties T (pn_bTies T (ps rfl))) (pn_tupL (pd_op (pd (x := worldD β B) rfl) pc_int (ro_ixT w_0)) (.d _))) ⟨rfl, rfl⟩
end
end Z
set_option Elab.async false
set_option linter.all false
set_option maxRecDepth 100000
set_option maxHeartbeats 1000000
namespace Z
open PySem PySem.Spec PyProof.Rows L2
/-! ### lists of lists that are changed: a tree of lists, all of them new -/
def All3 (P : V → List Addr → PyData → Prop) : List V → List Addr → List PyData → Prop
  | [], O, [] => O = []
  | v :: vs, O, d :: ds => ∃ O1 O2, O = O1 ++ O2 ∧ P v O1 d ∧ All3 P vs O2 ds
  | _, _, _ => False
def OwnL (H : Hp) : Nat → V → List Addr → PyData → Prop
  | 0, v, O, d => O = [] ∧ ((∃ i, v = .int i ∧ d = .int i) ∨ ∃ b, v = .bl b ∧ d = .bool b)
  | n + 1, v, O, d => ∃ a vs ds O', v = .ref a ∧ d = .list ds ∧ O = a :: O' ∧ H a = some (.lst vs) ∧ All3 (OwnL H n) vs O' ds
theorem All3.mono {P P' : V → List Addr → PyData → Prop} : ∀ {vs : List V} {O : List Addr} {ds : List PyData}, All3 P vs O ds → (∀ v O1 d, (∀ a, a ∈ O1 → a ∈ O) → P v O1 d → P' v O1 d) → All3 P' vs O ds
  | [], O, [], h, k => h
  | v :: vs, O, d :: ds, ⟨O1, O2, e, p, r⟩, k => ⟨O1, O2, e, k v O1 d (fun a m => by rw [e]; exact List.mem_append_left _ m) p, All3.mono r fun v O1 d s p => k v O1 d (fun a m => by rw [e]; exact List.mem_append_right _ (s a m)) p⟩
theorem OwnL.agree : ∀ {n : Nat} {H H' : Hp} {v : V} {O : List Addr} {d : PyData}, OwnL H n v O d → (∀ a, a ∈ O → H' a = H a) → OwnL H' n v O d
  | 0, _, _, _, _, _, h, _ => h
  | n + 1, H, H', v, O, d, ⟨a, vs, ds, O', e1, e2, e3, e4, e5⟩, k => ⟨a, vs, ds, O', e1, e2, e3, by rw [k a (by rw [e3]; exact List.mem_cons_self)]; exact e4,
      All3.mono e5 fun v O1 d s p => OwnL.agree p fun b m => k b (by rw [e3]; exact List.mem_cons_of_mem _ (s b m))⟩
theorem All3.len {P : V → List Addr → PyData → Prop} : ∀ {vs : List V} {O : List Addr} {ds : List PyData}, All3 P vs O ds → vs.length = ds.length
  | [], O, [], h => rfl
  | v :: vs, O, d :: ds, ⟨O1, O2, e, p, r⟩ => congrArg (· + 1) (All3.len r)
theorem All3.push {P : V → List Addr → PyData → Prop} {v : V} {O2 : List Addr} {d : PyData} (p : P v O2 d) : ∀ {vs : List V} {O : List Addr} {ds : List PyData}, All3 P vs O ds → All3 P (vs ++ [v]) (O ++ O2) (ds ++ [d])
  | [], O, [], h => ⟨O2, [], by rw [show O = [] from h]; simp, p, rfl⟩
  | w :: vs, O, e :: ds, ⟨A, B, he, q, r⟩ => ⟨A, B ++ O2, by rw [he, List.append_assoc], q, All3.push p r⟩
/-- one of them, and how it is put back -/
theorem All3.lens {P : V → List Addr → PyData → Prop} : ∀ {vs : List V} {O : List Addr} {ds : List PyData} {i : Nat} {x : PyData}, All3 P vs O ds → ds[i]? = some x → ∃ v A B C, vs[i]? = some v ∧ O = A ++ (B ++ C) ∧ P v B x ∧
    ∀ (P' : V → List Addr → PyData → Prop) (x' : PyData), (∀ w D y, (∀ a, a ∈ D → a ∈ A ++ C) → P w D y → P' w D y) → P' v B x' → All3 P' vs O (ds.set i x')
  | [], O, [], i, x, r, h => by simp at h
  | v :: vs, O, d :: ds, 0, x, ⟨O1, O2, e, p, r⟩, h => by
    cases h
    refine ⟨v, [], O1, O2, rfl, by simpa using e, p, fun P' x' k p' => ⟨O1, O2, e, p', All3.mono r fun w D y s q => k w D y (fun a m => by simpa using s a m) q⟩⟩
  | v :: vs, O, d :: ds, i + 1, x, ⟨O1, O2, e, p, r⟩, h => by
    obtain ⟨w, A, B, C, h1, h2, h3, h4⟩ := All3.lens (i := i) r h
    refine ⟨w, O1 ++ A, B, C, h1, by rw [e, h2]; simp, h3, fun P' x' k p' => ⟨O1, O2, e, k v O1 d (fun a m => by simp [m]) p, h4 P' x' (fun w D y s q => k w D y (fun a m => by have := s a m; simp at this ⊢; rcases this with z | z <;> simp [z]) q) p'⟩⟩
section
variable {K : PySem.W.Frag}
theorem All3.dq {G : Hp} {P : V → List Addr → PyData → Prop} : ∀ {vs : List V} {O : List Addr} {ds : List PyData}, All3 P vs O ds → (∀ v O1 d, (∀ a, a ∈ O1 → a ∈ O) → P v O1 d → Dq K G v d) → DqAll K G vs ds
  | [], O, [], h, k => .nil
  | v :: vs, O, d :: ds, ⟨O1, O2, e, p, r⟩, k => .cons (k v O1 d (fun a m => by rw [e]; exact List.mem_append_left _ m) p) (All3.dq r fun v O1 d s p => k v O1 d (fun a m => by rw [e]; exact List.mem_append_right _ (s a m)) p)
theorem OwnL.dq : ∀ {n : Nat} {H : Hp} {W : List Addr} {v : V} {O : List Addr} {d : PyData}, OwnL H n v O d → (∀ a, a ∈ O → a ∉ W) → Dq K (hid W H) v d
  | 0, _, _, _, _, _, ⟨_, .inl ⟨i, e1, e2⟩⟩, _ => by rw [e1, e2]; exact .int i
  | 0, _, _, _, _, _, ⟨_, .inr ⟨i, e1, e2⟩⟩, _ => by rw [e1, e2]; exact .bl i
  | n + 1, H, W, v, O, d, ⟨a, vs, ds, O', e1, e2, e3, e4, e5⟩, k => by
    rw [e1, e2]
    refine .lst (by rw [hid_of (k a (by rw [e3]; exact List.mem_cons_self))]; exact e4) (All3.dq e5 fun v O1 d s p => OwnL.dq p fun b m => k b (by rw [e3]; exact List.mem_cons_of_mem _ (s b m)))
/-- an item of a tree, and how it is put back -/
theorem OwnL.lens {n : Nat} {H : Hp} {v : V} {O : List Addr} {ds : List PyData} {i : Nat} {x : PyData} (h : OwnL H (n + 1) v O (.list ds)) (nd : O.Nodup) (hi : ds[i]? = some x) :
    ∃ a vs w B, v = .ref a ∧ H a = some (.lst vs) ∧ vs.length = ds.length ∧ vs[i]? = some w ∧ (∀ b, b ∈ B → b ∈ O) ∧ B.Nodup ∧ OwnL H n w B x ∧ ∀ H' x', (∀ b, b ∈ O → b ∉ B → H' b = H b) → OwnL H' n w B x' → OwnL H' (n + 1) v O (.list (ds.set i x')) := by
  obtain ⟨a, vs, ds', O', e1, e2, e3, e4, e5⟩ := h
  cases e2
  obtain ⟨w, A, B, C, h1, h2, h3, h4⟩ := All3.lens e5 hi
  have hB : ∀ b, b ∈ B → b ∈ O := fun b m => by rw [e3, h2]; simp [m]
  rw [e3, h2] at nd
  have nd2 := (List.nodup_cons.mp nd)
  have nd3 := List.nodup_append.mp nd2.2
  have nd4 := List.nodup_append.mp nd3.2.1
  refine ⟨a, vs, w, B, e1, e4, All3.len e5, h1, hB, nd4.1, h3, fun H' x' k p => ⟨a, vs, _, O', e1, rfl, e3, ?_, h4 _ x' (fun w D y s q => OwnL.agree q fun b m => k b (by rw [e3, h2]; have := s b m; simp at this ⊢; rcases this with z | z <;> simp [z]) fun hb => ?_) p⟩⟩
  · rw [k a (by rw [e3]; exact List.mem_cons_self) fun z => nd2.1 (by simp [z])]
    exact e4
  · rcases List.mem_append.mp (s b m) with z | z
    · exact nd3.2.2 b z b (List.mem_append_left _ hb) rfl
    · exact nd4.2.2 b hb b z rfl
/-- a row: an item is written -/
theorem OwnL.put {H : Hp} {v : V} {O : List Addr} {ds : List PyData} {i : Nat} {y : V} {x : PyData} (h : OwnL H 1 v O (.list ds)) (hi : i < ds.length) (hy : (∃ k, y = .int k ∧ x = .int k) ∨ ∃ b, y = .bl b ∧ x = .bool b) :
    ∃ a vs, v = .ref a ∧ O = [a] ∧ H a = some (.lst vs) ∧ vs.length = ds.length ∧ OwnL (upd H a (.lst (vs.set i y))) 1 v O (.list (ds.set i x)) := by
  obtain ⟨a, vs, ds', O', e1, e2, e3, e4, e5⟩ := h
  cases e2
  have e0 : O' = [] := by
    have key : ∀ {vs : List V} {O : List Addr} {ds : List PyData}, All3 (OwnL H 0) vs O ds → O = [] := by
      intro vs
      induction vs with
      | nil => intro O ds h; cases ds with
        | nil => exact h
        | cons _ _ => exact h.elim
      | cons v vs ih => intro O ds h; cases ds with
        | nil => exact h.elim
        | cons d ds =>
          obtain ⟨O1, O2, e, p, r⟩ := h
          rw [e, p.1, ih r]
          rfl
    exact key e5
  subst e0
  have key : ∀ {vs : List V} {ds : List PyData} {i : Nat} {H' : Hp}, All3 (OwnL H 0) vs [] ds → All3 (OwnL H' 0) (vs.set i y) [] (ds.set i x) := by
    intro vs
    induction vs with
    | nil => intro ds i H' h; cases ds with
      | nil => exact h
      | cons _ _ => exact h.elim
    | cons v vs ih => intro ds i H' h; cases ds with
      | nil => exact h.elim
      | cons d ds =>
        obtain ⟨O1, O2, e, p, r⟩ := h
        have e1 : O1 = [] := p.1
        have e2 : O2 = [] := by rw [e1] at e; exact e.symm
        rw [e2] at r
        cases i with
        | zero => exact ⟨[], [], rfl, ⟨rfl, hy⟩, All3.mono r fun v O1 d _ p => p⟩
        | succ i => exact ⟨[], [], rfl, ⟨rfl, p.2⟩, ih r⟩
  exact ⟨a, vs, e1, e3, e4, All3.len e5, a, _, _, [], e1, rfl, e3, upd_same, key e5⟩
end
end Z
set_option Elab.async false
set_option linter.all false
set_option maxRecDepth 100000
set_option maxHeartbeats 1000000
namespace Z
open PySem PySem.Spec PyProof.Rows L2
section
variable {P : Program} {w : World} {K : PySem.W.Frag} {bc cs : List Cell} {Γ : List Tv} {E : XK} {N : List Cell → List Cell → List Tv → Prop} {R : List Cell → Rv → Prop} {X : Xv → Prop} {mg : Str → Option Value}
theorem St.permM {M M' bs ls : List Addr} {σ : L2.St} {H : Hp} (S : St K bc cs Γ M bs ls σ H) (e : ∀ a, a ∈ M ↔ a ∈ M') : St K bc cs Γ M' bs ls σ H := by
  have h : hid (ls ++ (bs ++ M)) H = hid (ls ++ (bs ++ M')) H := hid_congr fun a => by
    simp only [List.mem_append, e a]
  exact ⟨S.nd, fun a m z => S.dis a m ((e a).mpr z), fun m hm => S.old m ((e m).mpr hm), by rw [← h]; exact S.base, by rw [← h]; exact S.cell, by rw [← h]; exact S.env⟩
theorem wipe_get {σ : L2.St} {i : Nat} : ∀ {vs : List Nat}, i ∉ vs → (wipe σ vs)[i]? = σ[i]?
  | [], _ => rfl
  | v :: vs, h => by
    have h1 : i ≠ v := fun e => h (by rw [e]; exact List.mem_cons_self)
    have h2 : i ∉ vs := fun m => h (List.mem_cons_of_mem _ m)
    show ((wipe σ vs).set v none)[i]? = σ[i]?
    rw [List.getElem?_set_ne (fun e => h1 e.symm), wipe_get h2]
/-! ### a tree is made -/
def Po (K : PySem.W.Frag) (bc : List Cell) (Γ : List Tv) (te : TE) (n : Nat) (d : PyData) : Prop := ∀ M bs σ H, St K bc [] Γ M bs [] σ H → ∀ Q : VK,
  (∀ v O H', O.Nodup → (∀ a, a ∈ O → H a = none) → OwnL H' n v O d → St K bc [] Γ (O ++ M) bs [] σ H' → Kp bs [] H H' → Q v H') → te σ H Q
theorem po_leaf {te : TE} {x : PyData} (hx : (∃ i, x = .int i) ∨ ∃ b, x = .bool b) (h : Pn K bc [] Γ te (· = .d x)) : Po K bc Γ te 0 x := fun M bs σ H S Q q =>
  h M bs [] σ H S _ fun t v H1 ht S1 k1 hv => by
    subst ht
    refine q v [] H1 List.nodup_nil (fun a m => by cases m) ⟨rfl, ?_⟩ S1 k1
    rcases hx with ⟨i, rfl⟩ | ⟨b, rfl⟩
    · cases hv; exact .inl ⟨i, rfl, rfl⟩
    · cases hv; exact .inr ⟨b, rfl, rfl⟩
theorem po_lc {wi : TI} {i n : Nat} {te : TE} {es ds : List PyData} (hs : Si K bc [] Γ wi (· = es)) (hz : es.length ≤ 1000) (hl : ds.length = es.length) (hΓ : wipeT Γ [i] = Γ)
    (step : ∀ (j : Nat) e, es[j]? = some e → ∃ x, ds[j]? = some x ∧ Po K bc (Γ.set i (.d e)) te n x) : Po K bc Γ (tLc wi (gName i) tYes te [i]) (n + 1) (.list ds) := fun M bs σ H S Q q => by
  refine hs M bs [] σ H S _ fun J ds0 H1 G Y hT S1 k1 w hG hY D nD => ?_
  subst hT
  have nDs := S1.new nD
  let Pv : Nat → Hp → Prop := fun j H' => ∃ vs O, H' D = some (.lst vs) ∧ All3 (OwnL H' n) vs O (ds.take j) ∧ (D :: O).Nodup ∧ (∀ a, a ∈ O → H1 a = none) ∧ St K bc [] Γ (D :: (O ++ M)) bs [] σ H' ∧ Kp bs [] H1 H'
  refine lc_it w Pv ⟨[], [], upd_same, rfl, by simp, fun a m => (by cases m), S1.hide nD, Kp.of_ex (ex_upd nD)⟩ ?_ ?_ ?_
  · rintro j H' _ ⟨vs, O, _, _, _, _, _, k⟩
    exact hG H' (Ex.trans k.ex hid_ex)
  · rintro j y H' H'' hj ⟨vs, O, hD, ha, nd, nO, S', k⟩ hy
    obtain ⟨ex, d, hdd, hdp⟩ := hY j H' y H'' hj (Ex.trans k.ex hid_ex) hy
    obtain ⟨x, hx, po⟩ := step j d hdd
    have S2 := S'.ex ex
    have nd1 := List.nodup_cons.mp nd
    have gx : Ex (hid ([] ++ (bs ++ M)) H1) (hid ([] ++ (bs ++ (D :: (O ++ M)))) H') := fun b o e => by
      obtain ⟨a1, a2⟩ := hid_at e
      have nb : b ≠ D := fun z => by rw [z, nD] at a2; cases a2
      have nb2 : b ∉ O := fun z => by rw [nO b z] at a2; cases a2
      have nbs : b ∉ bs := fun z => a1 (by simp [z])
      have nM : b ∉ M := fun z => a1 (by simp [z])
      rw [hid_of (by simp [nb, nb2, nbs, nM])]
      exact k.k b o (by simp) nbs a2
    have dp := hdp _ gx fun a m => (S'.alive a m).1
    have tg : Tg K (gName i) d (wipeT Γ [i]) ((wipeT Γ [i]).set i (.d d)) [i] := tg_name
    refine tg bs [] ([] ++ (bs ++ (D :: (O ++ M)))) H'' (wipe σ [i]) y (S2.env.wipes [i]) dp _ fun σ2 e2 w2 => ⟨by rw [w2 [i] fun _ h => h]; exact wipe_wipe [i], ?_⟩
    unfold tYes
    dsimp only
    rw [if_pos rfl]
    rw [hΓ] at e2
    refine po (D :: (O ++ M)) bs σ2 H'' (S2.with e2) _ fun z O2 H4 nd2 n2 o2 S4 k4 => ?_
    have k5 : Kp bs [] H' H4 := (Kp.of_ex ex).trans k4
    have hold : ∀ a, a ∈ D :: O → ∀ o, H' a = some o → H4 a = some o := fun a m o e => k5.k a o (by simp) (fun z => S'.dis a (List.mem_append_right _ z) (by
      rcases List.mem_cons.mp m with z2 | z2
      · rw [z2]; simp
      · simp [z2])) e
    have hD4 := hold D List.mem_cons_self _ hD
    have al : ∀ a, a ∈ O → ∃ o, H' a = some o := fun a m => by
      have := (S'.old a (by simp [m])).1
      cases e : H' a with
      | none => exact absurd e this
      | some o => exact ⟨o, rfl⟩
    have nD2 : D ∉ O2 := fun m => by
      have := n2 D m
      rw [ex _ _ hD] at this
      cases this
    have nO2 : ∀ a, a ∈ O → a ∉ O2 := fun a m m2 => by
      obtain ⟨o, e⟩ := al a m
      have := n2 a m2
      rw [ex _ _ e] at this
      cases this
    have hl2 := All3.len ha
    have hjl : j < ds0.length := hj
    have ht : ds.take (j + 1) = ds.take j ++ [x] := take_succ hx
    refine ⟨vs, hD4, by rw [hl2, List.length_take]; exact small1000 (by omega), vs ++ [z], O ++ O2, upd_same, ?_, ?_, ?_, ?_, ?_⟩
    · rw [ht]
      refine All3.push (OwnL.agree o2 fun a m => upd_ne fun e => nD2 (by rw [← e]; exact m)) (All3.mono ha fun v O1 d' s p => OwnL.agree p fun a m => ?_)
      obtain ⟨o, e⟩ := al a (s a m)
      rw [upd_ne fun e => nd1.1 (by rw [← e]; exact s a m), hold a (List.mem_cons_of_mem _ (s a m)) o e, e]
    · refine List.nodup_cons.mpr ⟨fun m => ?_, List.nodup_append.mpr ⟨nd1.2, nd2, fun a m b m2 e => nO2 a m (by rw [e]; exact m2)⟩⟩
      rcases List.mem_append.mp m with z | z
      · exact nd1.1 z
      · exact nD2 z
    · intro a m
      rcases List.mem_append.mp m with z | z
      · exact nO a z
      · exact (k.trans (Kp.of_ex ex)).free (n2 a z)
    · have S5 : St K bc [] Γ (O2 ++ (D :: (O ++ M))) bs [] σ H4 := S4.with (S'.env.ex fun b o e => by
        obtain ⟨a1, a2⟩ := hid_at e
        have nb2 : b ∉ O2 := fun z => by
          have := n2 b z
          rw [ex _ _ a2] at this
          cases this
        rw [hid_of fun m => by
          simp only [List.nil_append, List.mem_append, List.mem_cons] at m a1
          rcases m with m | m | m | m | m
          · exact a1 (.inl m)
          · exact nb2 m
          · exact a1 (.inr (.inl m))
          · exact a1 (.inr (.inr (.inl m)))
          · exact a1 (.inr (.inr (.inr m)))]
        exact k5.k b o (by simp) (fun z => a1 (by simp [z])) a2)
      exact (S5.permM (M' := D :: ((O ++ O2) ++ M)) fun a => by
        simp only [List.mem_append, List.mem_cons]
        constructor
        · rintro (m | m | m | m)
          · exact .inr (.inl (.inr m))
          · exact .inl m
          · exact .inr (.inl (.inl m))
          · exact .inr (.inr m)
        · rintro (m | (m | m) | m)
          · exact .inr (.inl m)
          · exact .inr (.inr (.inl m))
          · exact .inl m
          · exact .inr (.inr (.inr m))).updM List.mem_cons_self
    · have k6 := k.trans k5
      refine ⟨fun b o h1 h2 e => ?_, fun b h => ?_⟩
      · rw [upd_ne fun z => by rw [z, nD] at e; cases e]
        exact k6.k b o h1 h2 e
      · by_cases e : b = D
        · rw [e, upd_same]
          exact fun z => by cases z
        · rw [upd_ne e]
          exact k6.d b h
  · rintro H' ⟨vs, O, hD, ha, nd, nO, S', k⟩
    rw [← hl, List.take_length] at ha
    refine q (.ref D) (D :: O) H' nd (fun a m => ?_) ⟨D, vs, ds, O, rfl, rfl, rfl, hD, ha⟩ S' (k1.trans k)
    rcases List.mem_cons.mp m with z | z
    · rw [z]; exact k1.free nD
    · exact k1.free (nO a z)
/-! ### statements beside a tree -/
def TrO (K : PySem.W.Frag) (bc : List Cell) (Γ : List Tv) (i n : Nat) (d : PyData) (ts : TS) (N : List Tv → PyData → Prop) (R : List Cell → Rv → Prop) : Prop := ∀ M bs σ H v O, St K bc [] Γ (O ++ M) bs [] σ H → O.Nodup → (∀ a, a ∈ O → a ∉ M) → σ[i]? = some (some v) → OwnL H n v O d → ∀ D : Ends,
  (∀ Γ' d' σ' H', N Γ' d' → St K bc [] Γ' (O ++ M) bs [] σ' H' → σ'[i]? = some (some v) → OwnL H' n v O d' → Kp bs O H H' → D.nx σ' H') →
  (∀ r u H', R bc r → (∀ m, m ∈ M → Lv (H' m)) → CellsOk (hid (own u r ++ (bs ++ M)) H') H' bs bc → Kp bs O H H' → (∃ t, r = .tv t ∧ holds K bs [] (hid (bs ++ M) H') u t) → D.rt u H') → ts D σ H
variable {i n : Nat} {d : PyData} {NO : List Tv → PyData → Prop}
theorem tro_seq {t u : TS} (h : TrO K bc Γ i n d t (fun g d' => TrO K bc g i n d' u NO R) R) : TrO K bc Γ i n d (tSeq t u) NO R := fun M bs σ H v O S nd dis hi ho D q r =>
  h M bs σ H v O S nd dis hi ho _ (fun Γ' d' σ' H' hn S' hi' ho' k => hn M bs σ' H' v O S' nd dis hi' ho' D (fun Γ2 d2 σ2 H2 hn2 S2 hi2 ho2 k2 => q Γ2 d2 σ2 H2 hn2 S2 hi2 ho2 (k.trans k2)) fun r' u H2 hr o cb k2 hh => r r' u H2 hr o cb (k.trans k2) hh) r
theorem Kp.mono {bs ls ls' : List Addr} {H H' : Hp} (k : Kp bs ls H H') (s : ∀ a, a ∈ ls → a ∈ ls') : Kp bs ls' H H' := ⟨fun b o h g e => k.k b o (fun z => h (s b z)) g e, k.d⟩
/-- what is kept leaves the tree as it is -/
theorem OwnL.kept {M bs O : List Addr} {σ : L2.St} {H H' : Hp} {v : V} (S : St K bc [] Γ (O ++ M) bs [] σ H) (h : OwnL H n v O d) (k : Kp bs [] H H') : OwnL H' n v O d := h.agree fun a m => by
  have := (S.old a (List.mem_append_left _ m)).1
  cases e : H a with
  | none => exact absurd e this
  | some o => exact k.k a o (by simp) (fun z => S.dis a (by simpa using z) (List.mem_append_left _ m)) e
theorem tro_asg {te : TE} {T : Tv → Prop} {j : Nat} (ne : j ≠ i) (h : Pn K bc [] Γ te T) (k : ∀ t, T t → NO (Γ.set j t) d) : TrO K bc Γ i n d (tAsg te (gName j)) NO R := fun M bs σ H v O S nd dis hi ho D q r =>
  h (O ++ M) bs [] σ H S _ fun t x H1 ht S1 k1 hx => q _ d _ H1 (k t ht) (S1.set hx j) (by rw [List.getElem?_set_ne ne]; exact hi) (ho.kept S k1) (k1.mono fun a m => by cases m)
theorem tro_for {wi : TI} {g : TG} {tb : TS} {T : List PyData → Prop} (hs : Si K bc [] Γ wi T) (I : List PyData → Nat → List Tv → PyData → Prop) (h0 : ∀ ds, T ds → I ds 0 Γ d)
    (step : ∀ ds j x γ d', T ds → ds[j]? = some x → I ds j γ d' → ∃ γ' is, Tg K g x γ γ' is ∧ i ∉ is ∧ TrO K bc γ' i n d' tb (I ds (j + 1)) R)
    (hd : ∀ ds γ d', T ds → I ds ds.length γ d' → NO γ d') : TrO K bc Γ i n d (tFor wi g tb) NO R := fun M bs σ H v O S nd dis hi ho D q r => by
  refine hs (O ++ M) bs [] σ H S _ fun J ds H1 G Y hT S1 k1 w hG hY => ?_
  have kO : ∀ {H2 : Hp}, Kp bs O H1 H2 → Ex (hid ([] ++ (bs ++ (O ++ M))) H1) (hid ([] ++ (bs ++ (O ++ M))) H2) := fun k => hid_sub (fun _ h => h) fun b o h e => k.k b o (fun z => h (by simp [z])) (fun z => h (by simp [z])) e
  refine for_it w (fun j σ' H' => ∃ γ d', I ds j γ d' ∧ St K bc [] γ (O ++ M) bs [] σ' H' ∧ σ'[i]? = some (some v) ∧ OwnL H' n v O d' ∧ Kp bs O H1 H') ⟨Γ, d, h0 ds hT, S1, hi, ho.kept S k1, Kp.refl _⟩ ?_ ?_ ?_
  · rintro j σ' H' _ ⟨γ, d', _, _, _, _, k⟩
    exact hG H' (Ex.trans (kO k) hid_ex)
  · rintro j y σ' H' H'' hj ⟨γ, d', hI, S', hi', ho', k⟩ hy
    obtain ⟨ex, x, hdd, hdp⟩ := hY j H' y H'' hj (Ex.trans (kO k) hid_ex) hy
    obtain ⟨γ', is, tg, nis, tr⟩ := step ds j x γ d' hT hdd hI
    have S2 := S'.ex ex
    have dp := hdp _ (kO k) fun a m => (S'.alive a m).1
    have kk : Kp bs [] H' H'' := Kp.of_ex ex
    refine tg bs [] ([] ++ (bs ++ (O ++ M))) H'' σ' y S2.env dp _ fun σ2 e2 w2 => ?_
    have hi2 : σ2[i]? = some (some v) := by
      have := w2 is fun _ h => h
      rw [← wipe_get nis, this, wipe_get nis]
      exact hi'
    refine tr M bs σ2 H'' v O (S2.with e2) nd dis hi2 (ho'.kept S' kk) _ (fun γ3 d3 σ3 H3 n3 S3 i3 o3 k3 => ?_) (fun r3 u H3 h3 o3 cb k3 hv => ?_)
    · exact ⟨γ3, d3, n3, S3, i3, o3, (k.trans (kk.mono fun a m => by cases m)).trans k3⟩
    · exact r r3 u H3 h3 o3 cb (((k1.mono fun a m => by cases m).trans k).trans ((kk.mono fun a m => by cases m).trans k3)) hv
  · rintro σ' H' ⟨γ, d', hI, S', hi', ho', k⟩
    exact q γ d' σ' H' (hd ds γ d' hT hI) S' hi' ho' ((k1.mono fun a m => by cases m).trans k)
/-- the tree is given back -/
theorem tro_ret (h : R bc (.tv (.d d))) : TrO K bc Γ i n d (tRet (tVar i)) NO R := fun M bs σ H v O S nd dis hi ho D q r =>
  ⟨v, hi, r (.tv (.d d)) v H h (fun m hm => S.old m (List.mem_append_right _ hm)) (S.base.ex (hid_more fun a m => by
    rcases List.mem_append.mp (show a ∈ bs ++ M from m) with z | z
    · simp [z]
    · simp [z]) fun _ _ _ e => e) (Kp.refl _) ⟨_, rfl, ho.dq fun a m z => by
      rcases List.mem_append.mp z with z | z
      · exact S.dis a (by simpa using z) (List.mem_append_left _ m)
      · exact dis a m z⟩⟩
/-- a tree begins -/
theorem tr_newO {te : TE} {ts : TS} (h : Po K bc Γ te n d) (k : TrO K bc (Γ.set i .any) i n d ts (fun _ _ => False) R) (hi : i < Γ.length) : Tr K bc [] Γ E (tSeq (tAsg te (gName i)) ts) N R X := fun M bs ls σ H S D q r x => by
  have e : ls = [] := by
    have := S.cell
    cases ls with
    | nil => rfl
    | cons _ _ => exact this.elim
  subst e
  refine h M bs σ H S _ fun v O H' nd no o S' k' => ?_
  refine k M bs (σ.set i (some v)) H' v O (S'.set (t := .any) trivial i) nd (fun a m z => ?_) ?_ o D (fun _ _ _ _ f => f.elim) fun r' u H2 hr ol cb k2 hh => ?_
  · have := no a m
    exact (S.old a z).1 this
  · rw [List.getElem?_set_self]
    rw [S.env.len]
    exact hi
  · obtain ⟨t, e, ht⟩ := hh
    subst e
    exact r bc (.tv t) u H2 hr ol cb (k'.step (fun a m => .inr (no a m)) k2) ht
end
end Z
set_option Elab.async false
set_option linter.all false
set_option maxRecDepth 100000
set_option maxHeartbeats 1000000
namespace Z
open PySem PySem.Spec PyProof.Rows L2
section
variable {P : Program} {w : World} {K : PySem.W.Frag} {bc cs : List Cell} {Γ : List Tv} {E : XK} {N : List Cell → List Cell → List Tv → Prop} {R : List Cell → Rv → Prop} {X : Xv → Prop} {mg : Str → Option Value}
variable {i n : Nat} {d : PyData} {NO : List Tv → PyData → Prop}
def Flat (x : PyData) : Prop := (∃ i, x = .int i) ∨ ∃ b, x = .bool b
theorem OwnL.same {M bs O : List Addr} {σ : L2.St} {H H' : Hp} (S : St K bc [] Γ (O ++ M) bs [] σ H) (k : Kp bs [] H H') : ∀ b, b ∈ O → H' b = H b := fun a m => by
  have := (S.old a (List.mem_append_left _ m)).1
  cases e : H a with
  | none => exact absurd e this
  | some o => exact k.k a o (by simp) (fun z => S.dis a (by simpa using z) (List.mem_append_left _ m)) e
theorem flat_v {G : Hp} {y : V} {x : PyData} (h : Flat x) (hy : Dq K G y x) : (∃ k, y = .int k ∧ x = .int k) ∨ ∃ b, y = .bl b ∧ x = .bool b := by
  rcases h with ⟨k, rfl⟩ | ⟨b, rfl⟩
  · cases hy; exact .inl ⟨k, rfl, rfl⟩
  · cases hy; exact .inr ⟨b, rfl, rfl⟩
/-- row[q] = x, row within the tree -/
theorem row_set {j q : Nat} {tv t2 : TE} {x : PyData} {row : List PyData} (hΓ : Γ.set j .any = Γ) (hx : Flat x) (hv : Pn K bc [] Γ tv (· = .d x)) (h2 : Pn K bc [] Γ t2 (· = .d (iD q))) (hq : q < row.length)
    {M bs O : List Addr} {σ : L2.St} {H : Hp} {u : V} {B : List Addr} (S : St K bc [] Γ (O ++ M) bs [] σ H) (sB : ∀ b, b ∈ B → b ∈ O) (hj : j < σ.length) (ho : OwnL H 1 u B (.list row)) (D : Ends)
    (k : ∀ H', St K bc [] Γ (O ++ M) bs [] (σ.set j (some u)) H' → OwnL H' 1 u B (.list (row.set q x)) → (∀ b, b ∈ O → b ∉ B → H' b = H b) → Kp bs O H H' → D.nx (σ.set j (some u)) H') :
    tAsg tv (gSub (tVar j) t2 rSetL) D (σ.set j (some u)) H := by
  have S0 : St K bc [] Γ (O ++ M) bs [] (σ.set j (some u)) H := by
    have := S.set (v := u) (t := .any) trivial j
    rwa [hΓ] at this
  refine hv (O ++ M) bs [] _ H S0 _ fun t y H1 ht S1 k1 hy => ?_
  refine ⟨u, by rw [List.getElem?_set_self hj], h2 (O ++ M) bs [] _ H1 S1 _ fun t' z H2 ht' S2 k2 hz => ?_⟩
  subst ht ht'
  cases hz
  have k12 := k1.trans k2
  have same := OwnL.same S0 k12
  have ho2 : OwnL H2 1 u B (.list row) := ho.agree fun b m => same b (sB b m)
  obtain ⟨a, vs, e1, e2, e3, e4, e5⟩ := ho2.put hq (flat_v hx hy)
  have ma : a ∈ B := by rw [e2]; exact List.mem_cons_self
  refine ⟨a, vs, q, q, e1, rfl, e3, by rw [e4]; exact ixN_nat hq, ?_⟩
  refine k _ (S2.updM (List.mem_append_left _ (sB a ma))) e5 (fun b m nb => ?_) ((k12.mono fun a m => by cases m).trans (upd_kp (.inl (sB a ma))))
  rw [upd_ne fun e => nb (by rw [e]; exact ma)]
  exact same b m
/-- row = t[p]; row[q] = x -/
theorem row2_core {j p q : Nat} {t0 tv t2 : TE} {x : PyData} {row ds : List PyData} (ne : j ≠ i) (hj : j < Γ.length) (hΓ : Γ.set j .any = Γ) (hp : ds[p]? = some (.list row)) (hq : q < row.length) (hx : Flat x)
    (h0 : Pn K bc [] Γ t0 (· = .d (iD p))) (hv : Pn K bc [] Γ tv (· = .d x)) (h2 : Pn K bc [] Γ t2 (· = .d (iD q)))
    {M bs O : List Addr} {σ : L2.St} {H : Hp} {v : V} (S : St K bc [] Γ (O ++ M) bs [] σ H) (nd : O.Nodup) (hi : σ[i]? = some (some v)) (ho : OwnL H 2 v O (.list ds)) (D : Ends) (k : L2.St → Hp → Prop)
    (q' : ∀ σ' H', St K bc [] Γ (O ++ M) bs [] σ' H' → σ'[i]? = some (some v) → OwnL H' 2 v O (.list (ds.set p (.list (row.set q x)))) → Kp bs O H H' → k σ' H') :
    tAsg (tOp (rIxLT K) (tVar i) t0) (gName j) { D with nx := fun σ1 H1 => tAsg tv (gSub (tVar j) t2 rSetL) { D with nx := k } σ1 H1 } σ H := by
  refine ⟨v, hi, h0 (O ++ M) bs [] σ H S _ fun t y H1 ht S1 k1 hy => ?_⟩
  subst ht
  cases hy
  have ho1 := ho.kept S k1
  obtain ⟨a, vs, u, B, e1, e2, e3, e4, sB, nB, ou, put⟩ := OwnL.lens ho1 nd hp
  refine .inl ⟨a, vs, p, u, e1, rfl, SqL.of e2, atI_nat' e4, ?_⟩
  refine row_set hΓ hx hv h2 hq S1 sB (by rw [S1.env.len]; exact hj) ou _ fun H' S' o' same k' => ?_
  exact q' _ _ S' (by rw [List.getElem?_set_ne ne]; exact hi) (put H' _ same o') ((k1.mono fun a m => by cases m).trans k')
/-- row = t[p][r]; row[q] = x -/
theorem row3_core {j p r q : Nat} {t0 t1 tv t2 : TE} {x : PyData} {row ds es : List PyData} (ne : j ≠ i) (hj : j < Γ.length) (hΓ : Γ.set j .any = Γ) (hp : ds[p]? = some (.list es)) (hr : es[r]? = some (.list row)) (hq : q < row.length) (hx : Flat x)
    (h0 : Pn K bc [] Γ t0 (· = .d (iD p))) (h1 : Pn K bc [] Γ t1 (· = .d (iD r))) (hv : Pn K bc [] Γ tv (· = .d x)) (h2 : Pn K bc [] Γ t2 (· = .d (iD q)))
    {M bs O : List Addr} {σ : L2.St} {H : Hp} {v : V} (S : St K bc [] Γ (O ++ M) bs [] σ H) (nd : O.Nodup) (hi : σ[i]? = some (some v)) (ho : OwnL H 3 v O (.list ds)) (D : Ends) (k : L2.St → Hp → Prop)
    (q' : ∀ σ' H', St K bc [] Γ (O ++ M) bs [] σ' H' → σ'[i]? = some (some v) → OwnL H' 3 v O (.list (ds.set p (.list (es.set r (.list (row.set q x)))))) → Kp bs O H H' → k σ' H') :
    tAsg (tOp (rIxLT K) (tOp (rIxLT K) (tVar i) t0) t1) (gName j) { D with nx := fun σ1 H1 => tAsg tv (gSub (tVar j) t2 rSetL) { D with nx := k } σ1 H1 } σ H := by
  refine ⟨v, hi, h0 (O ++ M) bs [] σ H S _ fun t y H1 ht S1 k1 hy => ?_⟩
  subst ht
  cases hy
  have ho1 := ho.kept S k1
  obtain ⟨a, vs, u, B, e1, e2, e3, e4, sB, nB, ou, put⟩ := OwnL.lens ho1 nd hp
  refine .inl ⟨a, vs, p, u, e1, rfl, SqL.of e2, atI_nat' e4, ?_⟩
  refine h1 (O ++ M) bs [] σ H1 S1 _ fun t y H2 ht S2 k2 hy => ?_
  subst ht
  cases hy
  have same2 := OwnL.same S1 k2
  have ou2 : OwnL H2 2 u B (.list es) := ou.agree fun b m => same2 b (sB b m)
  obtain ⟨a', vs', u', B', f1, f2, f3, f4, sB', nB', ou', put'⟩ := OwnL.lens ou2 nB hr
  refine .inl ⟨a', vs', r, u', f1, rfl, SqL.of f2, atI_nat' f4, ?_⟩
  refine row_set hΓ hx hv h2 hq S2 (fun b m => sB b (sB' b m)) (by rw [S2.env.len]; exact hj) ou' _ fun H' S' o' same k' => ?_
  refine q' _ _ S' (by rw [List.getElem?_set_ne ne]; exact hi) (put H' _ (fun b m nb => ?_) (put' H' _ (fun b m nb => same b (sB b m) nb) o')) (((k1.trans k2).mono fun a m => by cases m).trans k')
  rw [same b m fun z => nb (sB' b z), same2 b m]
theorem tro_row2 {j p q : Nat} {t0 tv t2 : TE} {x : PyData} {row ds : List PyData} {ts : TS} (ne : j ≠ i) (hj : j < Γ.length) (hΓ : Γ.set j .any = Γ) (hp : ds[p]? = some (.list row)) (hq : q < row.length) (hx : Flat x)
    (h0 : Pn K bc [] Γ t0 (· = .d (iD p))) (hv : Pn K bc [] Γ tv (· = .d x)) (h2 : Pn K bc [] Γ t2 (· = .d (iD q))) (h : TrO K bc Γ i 2 (.list (ds.set p (.list (row.set q x)))) ts NO R) :
    TrO K bc Γ i 2 (.list ds) (tSeq (tAsg (tOp (rIxLT K) (tVar i) t0) (gName j)) (tSeq (tAsg tv (gSub (tVar j) t2 rSetL)) ts)) NO R := fun M bs σ H v O S nd dis hi ho D q r =>
  row2_core ne hj hΓ hp hq hx h0 hv h2 S nd hi ho D (fun σ' H' => ts D σ' H') fun σ' H' S' hi' ho' k => h M bs σ' H' v O S' nd dis hi' ho' D (fun Γ2 d2 σ2 H2 hn2 S2 hi2 ho2 k2 => q Γ2 d2 σ2 H2 hn2 S2 hi2 ho2 (k.trans k2)) fun r' u H2 hr o cb k2 hh => r r' u H2 hr o cb (k.trans k2) hh
theorem tro_row2E {j p q : Nat} {t0 tv t2 : TE} {x : PyData} {row ds : List PyData} (ne : j ≠ i) (hj : j < Γ.length) (hΓ : Γ.set j .any = Γ) (hp : ds[p]? = some (.list row)) (hq : q < row.length) (hx : Flat x)
    (h0 : Pn K bc [] Γ t0 (· = .d (iD p))) (hv : Pn K bc [] Γ tv (· = .d x)) (h2 : Pn K bc [] Γ t2 (· = .d (iD q))) (h : NO Γ (.list (ds.set p (.list (row.set q x))))) :
    TrO K bc Γ i 2 (.list ds) (tSeq (tAsg (tOp (rIxLT K) (tVar i) t0) (gName j)) (tAsg tv (gSub (tVar j) t2 rSetL))) NO R := fun M bs σ H v O S nd dis hi ho D q r =>
  row2_core ne hj hΓ hp hq hx h0 hv h2 S nd hi ho D D.nx fun σ' H' S' hi' ho' k => q Γ _ σ' H' h S' hi' ho' k
theorem tro_row3E {j p r q : Nat} {t0 t1 tv t2 : TE} {x : PyData} {row ds es : List PyData} (ne : j ≠ i) (hj : j < Γ.length) (hΓ : Γ.set j .any = Γ) (hp : ds[p]? = some (.list es)) (hr : es[r]? = some (.list row)) (hq : q < row.length) (hx : Flat x)
    (h0 : Pn K bc [] Γ t0 (· = .d (iD p))) (h1 : Pn K bc [] Γ t1 (· = .d (iD r))) (hv : Pn K bc [] Γ tv (· = .d x)) (h2 : Pn K bc [] Γ t2 (· = .d (iD q))) (h : NO Γ (.list (ds.set p (.list (es.set r (.list (row.set q x))))))) :
    TrO K bc Γ i 3 (.list ds) (tSeq (tAsg (tOp (rIxLT K) (tOp (rIxLT K) (tVar i) t0) t1) (gName j)) (tAsg tv (gSub (tVar j) t2 rSetL))) NO R := fun M bs σ H v O S nd dis hi ho D q' r' =>
  row3_core ne hj hΓ hp hr hq hx h0 h1 hv h2 S nd hi ho D D.nx fun σ' H' S' hi' ho' k => q' Γ _ σ' H' h S' hi' ho' k
theorem tro_wk {Γ' : List Tv} {t : TS} (w : Wk Γ Γ') (h : TrO K bc Γ' i n d t NO R) : TrO K bc Γ i n d t NO R := fun M bs σ H v O S => h M bs σ H v O (S.with (S.env.wk w))
/-! ### _law_let -/
theorem set_map {α : Type} {m p : Nat} {f : Nat → α} {x : α} : ((List.range m).map f).set p x = (List.range m).map fun j => if j = p then x else f j := by
  apply List.ext_getElem?
  intro j
  rw [List.getElem?_set, List.length_map, List.length_range]
  by_cases e : p = j
  · subst e
    rw [if_pos rfl]
    by_cases h : p < m
    · rw [if_pos h, range_map_at h, if_pos rfl]
    · rw [if_neg h]
      rw [List.getElem?_eq_none (by simp; omega)]
  · rw [if_neg e]
    by_cases h : j < m
    · rw [range_map_at h, range_map_at h, if_neg fun z => e z.symm]
    · rw [List.getElem?_eq_none (by simp; omega), List.getElem?_eq_none (by simp; omega)]
def letR (m : Nat) (B : T3 → Bool) (p q : Nat) : List PyData := (List.range m).map fun r => .bool (!B (p, q, r))
def letM (m : Nat) (B : T3 → Bool) (p : Nat) : List PyData := (List.range m).map fun q => .list (letR m B p q)
theorem letD_eq {m : Nat} {B : T3 → Bool} : letD m B = .list ((List.range m).map fun p => .list (letM m B p)) := rfl
theorem let_bar {m : Nat} {B : T3 → Bool} {t : T3} : PyData.list (((List.range m).map fun p => PyData.list (letM m B p)).set t.1 (.list ((letM m B t.1).set t.2.1 (.list ((letR m B t.1 t.2.1).set t.2.2 (.bool false)))))) = letD m fun u => B u || (u == t) := by
  obtain ⟨p, q, r⟩ := t
  rw [letD_eq, set_map]
  congr 1
  refine List.map_congr_left fun p' _ => ?_
  by_cases e1 : p' = p
  · subst e1
    rw [if_pos rfl]
    congr 1
    show (letM m B p').set q _ = _
    unfold letM
    rw [set_map]
    refine List.map_congr_left fun q' _ => ?_
    by_cases e2 : q' = q
    · subst e2
      rw [if_pos rfl]
      congr 1
      unfold letR
      rw [set_map]
      refine List.map_congr_left fun r' _ => ?_
      by_cases e3 : r' = r
      · subst e3
        rw [if_pos rfl]
        simp
      · rw [if_neg e3]
        have : ((p', q', r') == (p', q', r)) = false := by simp [e3]
        show PyData.bool (!B (p', q', r')) = PyData.bool (!(B (p', q', r') || ((p', q', r') == (p', q', r))))
        rw [this, Bool.or_false]
    · rw [if_neg e2]
      congr 1
      unfold letR
      refine List.map_congr_left fun r' _ => ?_
      have : ((p', q', r') == (p', q, r)) = false := by simp [e2]
      show PyData.bool (!B (p', q', r')) = PyData.bool (!(B (p', q', r') || ((p', q', r') == (p', q, r))))
      rw [this, Bool.or_false]
  · rw [if_neg e1]
    congr 1
    unfold letM
    refine List.map_congr_left fun q' _ => ?_
    congr 1
    unfold letR
    refine List.map_congr_left fun r' _ => ?_
    have : ((p', q', r') == (p, q, r)) = false := by simp [e1]
    show PyData.bool (!B (p', q', r')) = PyData.bool (!(B (p', q', r') || ((p', q', r') == (p, q, r))))
    rw [this, Bool.or_false]
theorem tr_law_let (x : ThsI) : Trp K [] E (t_law_let K (spLr K)) 8 ltTs ltR x := by
  obtain ⟨β, l, bl, ok⟩ := x
  have hm := bl.hi
  have hz : β.length ≤ 1000000 := by omega
  refine tr_seq (tr_set (t := .d (iD β.length)) (by rw [← isD_len (l := β)]; exact pn_lenD (pd rfl)) ?_)
  refine tr_newO (n := 3) (d := letD β.length fun _ => false) ?_ ?_ (by simp)
  · rw [letD_eq]
    refine po_lc (es := rgD 0 β.length) (si_rng1 (pd rfl) hz) (by rw [rgD_len]; omega) (by rw [rgD_len]; simp) rfl fun j e he => ?_
    obtain ⟨hj, rfl⟩ := rgD_get he
    refine ⟨_, range_map_at hj, po_lc (es := rgD 0 β.length) (si_rng1 (pd rfl) hz) (by rw [rgD_len]; omega) (by rw [rgD_len]; simp [letM]) rfl fun j2 e he => ?_⟩
    obtain ⟨hj2, rfl⟩ := rgD_get he
    refine ⟨_, range_map_at hj2, po_lc (es := rgD 0 β.length) (si_rng1 (pd rfl) hz) (by rw [rgD_len]; omega) (by rw [rgD_len]; simp [letR]) rfl fun j3 e he => ?_⟩
    obtain ⟨hj3, rfl⟩ := rgD_get he
    exact ⟨_, range_map_at hj3, po_leaf (.inr ⟨_, rfl⟩) pc_bl⟩
  · refine tro_seq (tro_for (si_seqL (pd rfl)) (fun _ j γ d => Wk γ [.d (.list (isD β)), .d (.list (l.map tD)), .d (iD β.length), .any, .any, .any, .any, .any, .any, .any] ∧ ∃ B : T3 → Bool, d = letD β.length B ∧ ∀ t, B t = clo (bk β) (l.take j) t) (fun ds e => ⟨Wk.refl _, _, rfl, fun t => rfl⟩) ?_ ?_)
    · rintro ds j y γ d' rfl hy ⟨hw, B, rfl, hB⟩
      obtain ⟨t, ht, rfl⟩ := map_at hy
      have hin := ok t (List.mem_of_getElem? ht)
      refine ⟨_, _, tg_name, by decide, tro_wk (wk_set hw) ?_⟩
      refine tro_for (si_seqL (pf_readings bl hin (pd rfl) (pd_op (pd (x := tD t) rfl) pc_int (ro_ixT t_0)) (pd_op (pd (x := tD t) rfl) pc_int (ro_ixT t_1)) (pd_op (pd (x := tD t) rfl) pc_int (ro_ixT t_2))).pd) (fun _ k γ d => Wk γ [.d (.list (isD β)), .d (.list (l.map tD)), .d (iD β.length), .any, .d (tD t), .any, .any, .any, .any, .any] ∧ ∃ B' : T3 → Bool, d = letD β.length B' ∧ ∀ u, B' u = (B u || ((readings (bk β) t).take k).contains u)) (fun ds e => ⟨⟨.inr rfl, .inr rfl, .inr rfl, .inr rfl, .inr rfl, .inr rfl, .inr rfl, .inr rfl, .inr rfl, .inr rfl, trivial⟩, B, rfl, fun u => by simp⟩) ?_ ?_
      · rintro ds k y γ d' rfl hy ⟨hw, B', rfl, hB'⟩
        obtain ⟨u, hu, rfl⟩ := map_at hy
        have hui := rd_in bl hin (List.mem_of_getElem? hu)
        refine ⟨_, _, tg_name, by decide, tro_wk (wk_set hw) ?_⟩
        rw [letD_eq]
        refine tro_row3E (p := u.1) (r := u.2.1) (q := u.2.2) (x := .bool false) (es := letM β.length B' u.1) (row := letR β.length B' u.1 u.2.1) (by decide) (by simp) rfl (range_map_at hui.1) (range_map_at hui.2.1) (by simp [letR]; exact hui.2.2) (.inr ⟨_, rfl⟩) (pd_op (pd (x := tD u) rfl) pc_int (ro_ixT t_0)) (pd_op (pd (x := tD u) rfl) pc_int (ro_ixT t_1)) pc_bl (pd_op (pd (x := tD u) rfl) pc_int (ro_ixT t_2)) ?_
        refine ⟨⟨.inr rfl, .inr rfl, .inr rfl, .inr rfl, .inr rfl, .inl rfl, .inr rfl, .inr rfl, .inr rfl, .inr rfl, trivial⟩, _, let_bar, fun s => ?_⟩
        rw [hB' s, take_succ hu]
        rw [Bool.eq_iff_iff]
        simp [or_assoc]
      · rintro ds γ d' rfl ⟨hw, B', rfl, hB'⟩
        rw [List.length_map, List.take_length] at hB'
        refine ⟨wk_trans hw ⟨.inr rfl, .inr rfl, .inr rfl, .inr rfl, .inl rfl, .inr rfl, .inr rfl, .inr rfl, .inr rfl, .inr rfl, trivial⟩, B', rfl, fun u => ?_⟩
        rw [hB' u, hB u, take_succ ht]
        unfold clo
        rw [List.any_append]
        simp
    · rintro ds γ d' rfl ⟨hw, B, rfl, hB⟩
      rw [List.length_map, List.take_length] at hB
      refine tro_wk hw (tro_ret ⟨rfl, ?_⟩)
      show _ = Rv.tv (.d (letD β.length (clo (bk β) l)))
      rw [letD_congr fun t _ => hB t]
end
end Z
set_option Elab.async false
set_option linter.all false
set_option maxRecDepth 100000
set_option maxHeartbeats 1000000
namespace Z
open PySem PySem.Spec PyProof.Rows L2
section
variable {P : Program} {w : World} {K : PySem.W.Frag} {bc cs : List Cell} {Γ : List Tv} {E : XK} {N : List Cell → List Cell → List Tv → Prop} {R : List Cell → Rv → Prop} {X : Xv → Prop} {mg : Str → Option Value}
/-! ### _law_drawn_table -/
def gRow (n : Nat) (h : Nat → Nat → Int) (a : Nat) : List PyData := (List.range n).map fun b => .int (h a b)
def gTab (n : Nat) (h : Nat → Nat → Int) : List PyData := (List.range n).map fun a => .list (gRow n h a)
def put2 (h : Nat → Nat → Int) (i j : Nat) (x : Int) : Nat → Nat → Int := fun a b => if a = i then (if b = j then x else h a b) else h a b
theorem gTab_set {n i j : Nat} {h : Nat → Nat → Int} {x : Int} : (gTab n h).set i (.list ((gRow n h i).set j (.int x))) = gTab n (put2 h i j x) := by
  unfold gTab
  rw [set_map]
  refine List.map_congr_left fun a _ => ?_
  by_cases e : a = i
  · subst e
    rw [if_pos rfl]
    congr 1
    unfold gRow
    rw [set_map]
    refine List.map_congr_left fun b _ => ?_
    unfold put2
    rw [if_pos rfl]
    by_cases e2 : b = j
    · rw [if_pos e2, if_pos e2]
    · rw [if_neg e2, if_neg e2]
  · rw [if_neg e]
    congr 1
    unfold gRow
    refine List.map_congr_left fun b _ => ?_
    unfold put2
    rw [if_neg e]
structure DtI where
  β : List Nat
  n : Nat
  bl : Bks β
  few : n ≤ 4
abbrev dtTs : DtI → List Tv := fun x => [.bas 0, .d (.list (isD x.β)), .d (iD x.n)]
abbrev dtR : DtI → Rv → Prop := fun x r => ∃ f, Tab x.β x.n f ∧ r = .tv (.d (tabD x.n f))
abbrev spDt (K : PySem.W.Frag) : Sp := Pro K [handC K] dtTs dtR
/-- the entries (a, b), b < a, of the rows before i, and of row i before j, are drawn -/
def Drawn (β : List Nat) (h : Nat → Nat → Int) (i j : Nat) : Prop := (∀ a, h a a = -1) ∧ ∀ a b, b < a → (a < i ∨ (a = i ∧ b < j)) → ∃ x : Nat, x < β.length ∧ h a b = x ∧ h b a = (bk β x : Nat)
theorem tr_law_drawn_table (x : DtI) : Trp K [handC K] E (t_law_drawn_table K (spDr K)) 5 dtTs dtR x := by
  obtain ⟨β, n, bl, few⟩ := x
  have hz : n ≤ 1000000 := by omega
  have hlo := bl.lo
  have hm := bl.hi
  refine tr_newO (n := 2) (d := .list (gTab n fun _ _ => -1)) ?_ ?_ (by simp)
  · refine po_lc (es := rgD 0 n) (si_rng1 (pd rfl) hz) (by rw [rgD_len]; omega) (by rw [rgD_len]; simp [gTab]) rfl fun j e he => ?_
    obtain ⟨hj, rfl⟩ := rgD_get he
    refine ⟨_, range_map_at hj, po_lc (es := rgD 0 n) (si_rng1 (pd rfl) hz) (by rw [rgD_len]; omega) (by rw [rgD_len]; simp [gRow]) rfl fun j2 e he => ?_⟩
    obtain ⟨hj2, rfl⟩ := rgD_get he
    exact ⟨_, range_map_at hj2, po_leaf (.inl ⟨_, rfl⟩) (pn_un (fun H Q q => ⟨1, rfl, q⟩) pc_int)⟩
  · refine tro_seq (tro_for (si_rng1 (n := n) (pd rfl) hz) (fun _ i γ d => Wk γ [.bas 0, .d (.list (isD β)), .d (iD n), .any, .any, .any, .any, .any] ∧ ∃ h, d = .list (gTab n h) ∧ Drawn β h i 0) (fun ds e => ⟨Wk.refl _, _, rfl, fun a => rfl, fun a b _ q => ?_⟩) ?_ ?_)
    · rcases q with q | ⟨_, q⟩ <;> exact absurd q (Nat.not_lt_zero _)
    · rintro ds i y γ d' rfl hy ⟨hw, h, rfl, hD⟩
      obtain ⟨hi, rfl⟩ := rgD_get hy
      rw [Nat.zero_add]
      refine ⟨_, _, tg_name, by decide, tro_wk (wk_set hw) ?_⟩
      refine tro_for (si_rng1 (n := i) (pd rfl) (by omega)) (fun _ j γ d => Wk γ [.bas 0, .d (.list (isD β)), .d (iD n), .any, .d (iD i), .any, .any, .any] ∧ ∃ h, d = .list (gTab n h) ∧ Drawn β h i j) (fun ds e => ⟨⟨.inr rfl, .inr rfl, .inr rfl, .inr rfl, .inr rfl, .inr rfl, .inr rfl, .inr rfl, trivial⟩, h, rfl, hD⟩) ?_ ?_
      · rintro ds j y γ d' rfl hy ⟨hw, h, rfl, hD⟩
        obtain ⟨hj, rfl⟩ := rgD_get hy
        rw [Nat.zero_add]
        refine ⟨_, _, tg_name, by decide, tro_wk (wk_set hw) ?_⟩
        have hlen : Pn K [handC K] [] [.bas 0, .d (.list (isD β)), .d (iD n), .any, .d (iD i), .d (iD j), .any, .any] (tCB (rLen K) (tCons (tVar 1) tNil)) (· = .d (iD β.length)) := by
          rw [← isD_len (l := β)]
          exact pn_lenD (pd rfl)
        refine tro_seq (tro_asg (T := fun t => ∃ k : Nat, k < β.length ∧ t = .d (iD k)) (by decide) (pn_draw rfl hlen (by omega) (by omega)) ?_)
        rintro _ ⟨k, hk, rfl⟩
        refine tro_row2 (p := i) (q := j) (x := iD k) (row := gRow n h i) (by decide) (by simp) rfl (range_map_at hi) (by simp [gRow]; omega) (.inl ⟨_, rfl⟩) (pd rfl) (pd rfl) (pd rfl) ?_
        rw [gTab_set]
        refine tro_row2E (p := j) (q := i) (x := iD (bk β k)) (row := gRow n (put2 h i j k) j) (by decide) (by simp) rfl (range_map_at (by omega)) (by simp [gRow]; omega) (.inl ⟨_, rfl⟩) (pd rfl) (pd_op (pd rfl) (pd rfl) (ro_ixL (isD_atI hk))) (pd rfl) ?_
        rw [gTab_set]
        refine ⟨⟨.inr rfl, .inr rfl, .inr rfl, .inr rfl, .inr rfl, .inl rfl, .inl rfl, .inr rfl, trivial⟩, _, rfl, fun a => ?_, fun a b hab hc => ?_⟩
        · unfold put2
          by_cases e1 : a = j
          · rw [if_pos e1, if_neg (by omega), if_neg (by omega)]
            exact hD.1 a
          · rw [if_neg e1]
            by_cases e2 : a = i
            · rw [if_pos e2, if_neg (by omega)]; exact hD.1 a
            · rw [if_neg e2]; exact hD.1 a
        · by_cases e : a = i ∧ b = j
          · obtain ⟨rfl, rfl⟩ := e
            refine ⟨k, hk, ?_, ?_⟩
            · unfold put2
              rw [if_neg (by omega), if_pos rfl, if_pos rfl]
            · unfold put2
              rw [if_pos rfl, if_pos rfl]
          · obtain ⟨x, hx, h1, h2⟩ := hD.2 a b hab (by omega)
            refine ⟨x, hx, ?_, ?_⟩
            · rw [← h1]
              unfold put2
              by_cases c1 : a = j
              · rw [if_pos c1, if_neg (by omega), if_neg (by omega)]
              · rw [if_neg c1]
                by_cases c2 : a = i
                · rw [if_pos c2, if_neg (by omega)]
                · rw [if_neg c2]
            · rw [← h2]
              unfold put2
              by_cases c1 : b = j
              · rw [if_pos c1, if_neg (by omega), if_neg (by omega)]
              · rw [if_neg c1]
                by_cases c2 : b = i
                · rw [if_pos c2, if_neg (by omega)]
                · rw [if_neg c2]
      · rintro ds γ d' rfl ⟨hw, h, rfl, hD⟩
        rw [rgD_len] at hD
        refine ⟨wk_trans hw ⟨.inr rfl, .inr rfl, .inr rfl, .inr rfl, .inl rfl, .inr rfl, .inr rfl, .inr rfl, trivial⟩, h, rfl, hD.1, fun a b hab hc => hD.2 a b hab ?_⟩
        omega
    · rintro ds γ d' rfl ⟨hw, h, rfl, hD⟩
      rw [rgD_len] at hD
      refine tro_wk hw (tro_ret ⟨rfl, fun a b => (h a b).toNat, ⟨fun i j hij hi => ?_, fun i j hij hi => ?_⟩, ?_⟩)
      · obtain ⟨x, hx, h1, h2⟩ := hD.2 i j hij (.inl hi)
        show (h i j).toNat < β.length
        rw [h1]
        simpa using hx
      · obtain ⟨x, hx, h1, h2⟩ := hD.2 i j hij (.inl hi)
        show (h j i).toNat = bk β (h i j).toNat
        rw [h1, h2]
        simp
      · show Rv.tv (.d (.list (gTab n h))) = Rv.tv (.d (tabD n fun a b => (h a b).toNat))
        congr 2
        unfold tabD gTab
        congr 1
        refine List.map_congr_left fun a ha => ?_
        congr 1
        unfold gRow tabRow
        refine List.map_congr_left fun b hb => ?_
        have ha' := List.mem_range.mp ha
        have hb' := List.mem_range.mp hb
        by_cases e : a = b
        · subst e
          rw [if_pos rfl, hD.1 a]
        · rw [if_neg e]
          show PyData.int _ = PyData.int _
          congr 1
          rcases Nat.lt_or_gt_of_ne e with q | q
          · obtain ⟨x, hx, h1, h2⟩ := hD.2 b a q (.inl hb')
            show h a b = ((h a b).toNat : Int)
            rw [h2]
            simp
          · obtain ⟨x, hx, h1, h2⟩ := hD.2 a b q (.inl ha')
            show h a b = ((h a b).toNat : Int)
            rw [h1]
            simp
end
end Z
set_option Elab.async false
set_option linter.all false
set_option maxRecDepth 100000
set_option maxHeartbeats 1000000
namespace Z
open PySem PySem.Spec PyProof.Rows L2
/-! ### what is due to a list of couples -/
def itemsD : PyData → Option (List PyData)
  | .list l => some l
  | .tuple l => some l
  | _ => none
def goodE (m : Nat) : PyData → Bool
  | .int z => decide (0 ≤ z) && decide (z < (m : Int))
  | _ => false
def natD : PyData → Nat
  | .int z => z.toNat
  | _ => 0
def cplD (m : Nat) (d : PyData) : Option (Nat × Nat) := match itemsD d with
  | some [x, y] => if goodE m x && goodE m y then some (natD x, natD y) else none
  | _ => none
def prs (m : Nat) (items : List PyData) (i : Nat) : List (Nat × Nat) := (items.take i).filterMap (cplD m)
def fsts (ps : List (Nat × Nat)) : List Nat := ps.map (·.1)
def snds (ps : List (Nat × Nat)) : List Nat := ps.map (·.2)
def kind (m : Nat) (items : List PyData) (i : Nat) : Option Str := match items[i]? with
  | none => none
  | some d => match cplD m d with
    | none => some "pair"
    | some p => if (fsts (prs m items i)).contains p.1 || (snds (prs m items i)).contains p.2 then some "double" else none
def backOk (β : List Nat) (ps : List (Nat × Nat)) (k : Nat) : Bool := decide (bk β (bk (snds ps) k) = bk (snds ps) ((fsts ps).idxOf (bk β (bk (fsts ps) k))))
def dueF (β : List Nat) (items : List PyData) : PyData := match (List.range items.length).find? (fun i => (kind β.length items i).isSome) with
  | some i => .tuple [iD i, .str ((kind β.length items i).getD "")]
  | none => if (items.filterMap (cplD β.length)).length < β.length then .tuple [iD items.length, .str "lacking"] else
    match (List.range (items.filterMap (cplD β.length)).length).find? (fun k => !backOk β (items.filterMap (cplD β.length)) k) with
    | some k => .tuple [iD k, .str "back"]
    | none => .none
/-- the couples so far are of m and none is twice -/
structure PrOk (m : Nat) (ps : List (Nat × Nat)) : Prop where
  lt : ∀ p, p ∈ ps → p.1 < m ∧ p.2 < m
  n1 : (fsts ps).Nodup
  n2 : (snds ps).Nodup
theorem PrOk.few {m : Nat} {ps : List (Nat × Nat)} (h : PrOk m ps) : ps.length ≤ m := by
  have := List.Nodup.length_le_of_subset h.n1 (l₂ := List.range m) fun x hx => by
    obtain ⟨p, hp, rfl⟩ := List.mem_map.mp hx
    exact List.mem_range.mpr (h.lt p hp).1
  simpa [fsts] using this
theorem nodup_full {m : Nat} {l : List Nat} (n : l.Nodup) (lt : ∀ x, x ∈ l → x < m) (e : l.length = m) {x : Nat} (hx : x < m) : x ∈ l := by
  by_cases h : x ∈ l
  · exact h
  · have := List.Nodup.length_le_of_subset (l₁ := x :: l) (List.nodup_cons.mpr ⟨h, n⟩) (l₂ := List.range m) fun y hy => by
      rcases List.mem_cons.mp hy with z | z
      · rw [z]; exact List.mem_range.mpr hx
      · exact List.mem_range.mpr (lt y z)
    rw [List.length_cons, List.length_range] at this
    omega
theorem find_range {n k : Nat} {p : Nat → Bool} (h : k < n) (hp : p k = true) (g : ∀ j, j < k → p j = false) : (List.range n).find? p = some k :=
  find_take (i := k) (List.getElem?_range h) (fun x hx => g x (by
    rw [List.take_range] at hx
    have := List.mem_range.mp hx
    omega)) hp
theorem find_range_none {n : Nat} {p : Nat → Bool} (g : ∀ j, j < n → p j = false) : (List.range n).find? p = none :=
  List.find?_eq_none.mpr fun x hx => by rw [g x (List.mem_range.mp hx)]; simp
theorem due_kind {β : List Nat} {items : List PyData} {i : Nat} {s : Str} (h : ∀ j, j < i → kind β.length items j = none) (e : kind β.length items i = some s) : dueF β items = .tuple [iD i, .str s] := by
  have hi : i < items.length := by
    unfold kind at e
    cases q : items[i]? with
    | none => rw [q] at e; cases e
    | some d => exact (List.getElem?_eq_some_iff.mp q).1
  unfold dueF
  rw [find_range hi (by rw [e]; rfl) fun j hj => by rw [h j hj]; rfl]
  dsimp only
  rw [e]
  rfl
theorem due_good {β : List Nat} {items : List PyData} (h : ∀ j, j < items.length → kind β.length items j = none) : dueF β items = if (items.filterMap (cplD β.length)).length < β.length then .tuple [iD items.length, .str "lacking"] else
    match (List.range (items.filterMap (cplD β.length)).length).find? (fun k => !backOk β (items.filterMap (cplD β.length)) k) with
    | some k => .tuple [iD k, .str "back"]
    | none => .none := by
  unfold dueF
  rw [find_range_none fun j hj => by rw [h j hj]; rfl]
theorem prs_succ {m : Nat} {items : List PyData} {i : Nat} {d : PyData} {p : Nat × Nat} (h : items[i]? = some d) (e : cplD m d = some p) : prs m items (i + 1) = prs m items i ++ [p] := by
  unfold prs
  rw [take_succ h, List.filterMap_append]
  simp [e]
theorem PrOk.push {m : Nat} {ps : List (Nat × Nat)} {p : Nat × Nat} (h : PrOk m ps) (h1 : p.1 < m) (h2 : p.2 < m) (n1 : p.1 ∉ fsts ps) (n2 : p.2 ∉ snds ps) : PrOk m (ps ++ [p]) := by
  refine ⟨fun q hq => ?_, ?_, ?_⟩
  · rcases List.mem_append.mp hq with z | z
    · exact h.lt q z
    · rw [List.mem_singleton.mp z]; exact ⟨h1, h2⟩
  · unfold fsts
    rw [List.map_append]
    exact List.nodup_append.mpr ⟨h.n1, by simp, fun a ha b hb e => n1 (by
      have : b = p.1 := by simpa using hb
      rw [← this, ← e]
      exact ha)⟩
  · unfold snds
    rw [List.map_append]
    exact List.nodup_append.mpr ⟨h.n2, by simp, fun a ha b hb e => n2 (by
      have : b = p.2 := by simpa using hb
      rw [← this, ← e]
      exact ha)⟩
section
variable {P : Program} {w : World} {K : PySem.W.Frag} {bc cs : List Cell} {Γ : List Tv} {E : XK} {N : List Cell → List Cell → List Tv → Prop} {R : List Cell → Rv → Prop} {X : Xv → Prop} {mg : Str → Option Value}
/-- x, y = [], [] -/
theorem tr_par {i j : Nat} (h : N bc (cs ++ [lstC K [], lstC K []]) ((Γ.set j (.cel cs.length)).set i (.cel (cs.length + 1)))) (ne : i ≠ j) : Tr K bc cs Γ E (tPar i j (tCons (tLst tNil) (tCons (tLst tNil) tNil))) N R X := fun M bs ls σ H S D q r x => by
  unfold tPar tCons tNil
  refine pf_lstD (ds := []) qa_nil (by decide) M bs ls σ H S _ fun ds vs p H1 ht n S1 k1 hp ha => ?_
  subst ht
  refine pf_lstD (ds := []) qa_nil (by decide) (p :: M) bs ls σ H1 S1 _ fun ds vs2 p2 H2 ht n2 S2 k2 hp2 ha2 => ?_
  subst ht
  refine ⟨_, _, rfl, ?_⟩
  have np : p ∉ M := (S.new n).2.2
  have np2 : p2 ∉ p :: M := (S1.new n2).2.2
  have S3 := S2.newCell (c := lstC K []) (i := j) hp2 ⟨vs2, rfl, ha2⟩ np2
  have hp3 : H2 p = some (.lst vs) := k2.k p _ (S1.new n2 |> fun _ => fun z => by
    have := S1.dis p (List.mem_append_left _ z) List.mem_cons_self
    exact this) (fun z => S1.dis p (List.mem_append_right _ z) List.mem_cons_self) hp
  have e1 : vs = [] := by cases ha; rfl
  have S4 := S3.newCell (c := lstC K []) (i := i) hp3 ⟨vs, rfl, by rw [e1]; exact .nil⟩ np
  rw [show (cs ++ [lstC K []]).length = cs.length + 1 by simp, List.append_assoc] at S4
  rw [List.set_comm _ _ ne]
  refine q bc _ _ _ _ H2 h S4 (k1.trans k2) fun a ha => ?_
  rcases List.mem_append.mp ha with z | z
  · rcases List.mem_append.mp z with z | z
    · exact .inl z
    · rw [List.mem_singleton.mp z]; exact .inr (k1.free n2)
  · rw [List.mem_singleton.mp z]; exact .inr n
/-- l.index(x) on a cell -/
theorem pn_indexC {i k n : Nat} {te : TE} {l : List Nat} (hi : Γ[i]? = some (.cel k)) (hk : cs[k]? = some (lstC K (isD l))) (h : Pn K bc cs Γ te (· = .d (iD n))) (hn : n ∈ l) : Pn K bc cs Γ (tBM K "list" (rIndexD K) (tVar i) (tCons te tNil)) (· = .d (iD (l.idxOf n))) := fun M bs ls σ H S Q q => by
  unfold tBM
  refine pc (bc := bc) (cs := cs) hi M bs ls σ H S _ fun t v H1 ht S1 k1 hv => ?_
  subst ht
  obtain ⟨a, o, rfl, ea, h1, vs, rfl, h2⟩ := S1.cellR hv hk
  refine ⟨.inl ⟨rfl, vs, SqL.of h1⟩, h M bs ls σ H1 S1 _ fun u y H2 hu S2 k2 hy => ?_⟩
  subst hu
  obtain ⟨vs', e2, h3⟩ := S2.cellAt ea hk
  have hd : Dq K H2 (.ref a) (.list (isD l)) := .lst e2 (DqAll.ex hid_ex _ _ h3)
  have hlt := List.idxOf_lt_length_iff.mpr hn
  have hg : bk l (l.idxOf n) = n := by
    unfold bk
    rw [List.getD_eq_getElem?_getD, List.getElem?_eq_getElem hlt]
    exact List.getElem_idxOf hlt
  refine ⟨a, y, iD n, isD l, l.idxOf n, iD (bk l (l.idxOf n)), rfl, rfl, Dq.dp _ _ hd, Dq.dp _ _ (Dq.ex hid_ex _ _ hy), (fl_is l).sh (by decide), sh_int, isD_at hlt, by rw [hg]; exact eqv_self rfl, fun m z hm hz => ?_, q _ _ H2 rfl S2 (k1.trans k2) (.int _)⟩
  obtain ⟨hml, rfl⟩ := isD_get hz
  rw [eqv_int]
  refine decide_eq_false fun e => ?_
  have e2 : bk l m = n := by omega
  have : l.idxOf n ≤ m := by
    have key : ∀ {l : List Nat} {m : Nat}, m < l.length → bk l m = n → l.idxOf n ≤ m := by
      intro l
      induction l with
      | nil => intro m h; simp at h
      | cons x l ih =>
        intro m h e
        rw [List.idxOf_cons]
        by_cases hx : x == n
        · rw [hx]; simp
        · have hx' : (x == n) = false := by simpa using hx
          rw [hx']
          cases m with
          | zero =>
            have : x = n := e
            rw [this] at hx
            simp at hx
          | succ m =>
            have := ih (m := m) (by simpa using h) e
            simp
            omega
    exact key hml e2
  omega
/-- a walk of a list or a tuple -/
theorem si_items {te : TE} {d : PyData} {l : List PyData} (e : itemsD d = some l) (h : Pn K bc cs Γ te (· = .d d)) : Si K bc cs Γ (iSeq K te) (· = l) := by
  cases d with
  | list l' => cases e; exact si_seqL h
  | tuple l' => cases e; exact si_seqT h
  | _ => cases e
theorem ro_items {d x : PyData} {l : List PyData} {k : Int} (e : itemsD d = some l) (h : atI l k = some x) : Ro K bc cs Γ (rIxLT K) (.d d) (.d (.int k)) (· = .d x) := by
  cases d with
  | list l' => cases e; exact ro_ixL h
  | tuple l' => cases e; exact ro_ixT h
  | _ => cases e
/-- an int or a bool -/
def IntB (x : PyData) : Prop := (∃ z, x = .int z) ∨ ∃ b, x = .bool b
/-- isinstance(e, bool) or not isinstance(e, int) or e < 0 or e >= many -/
theorem qt_entry {te tm : TE} {x : PyData} {m : Nat} (hx : IntB x) (h : Pn K bc cs Γ te (· = .d x)) (g : Pn K bc cs Γ tm (· = .d (iD m))) :
    Pt K bc cs Γ (tOr (tB (tCB (rIsi K) (tCons te (tCons (tC (.ty "bool")) tNil)))) (tOr (tNot (tB (tCB (rIsi K) (tCons te (tCons (tC (.ty "int")) tNil))))) (tOr (tTest (tOp rLt te (tC (.int 0)))) (tTest (tOp rGe te tm))))) (· = !goodE m x) := by
  rcases hx with ⟨z, rfl⟩ | ⟨b, rfl⟩
  · refine (qt_or (a := false) (b := (!true || (decide (z < 0) || decide (z ≥ (m : Int))))) (qt_B (pn_isiU "int" h rfl (by decide +kernel))) fun _ => qt_or (qt_not (qt_B (pn_isiU "int" h rfl (by decide +kernel)))) fun _ => qt_or (qt_of (pd_op h pc_int ro_bl)) fun _ => qt_of (pd_op h g ro_bl)).mono fun t e => ?_
    rw [e, Bool.eq_iff_iff]
    simp [goodE]
  · refine (qt_or (a := true) (b := true) (qt_B (pn_isiU "bool" h rfl (by decide +kernel))) fun e => by cases e).mono fun t e => ?_
    rw [e]
    rfl
structure DuI where
  β : List Nat
  items : List PyData
  bl : Bks β
  few : items.length ≤ 100
  two : ∀ d, d ∈ items → ∃ x y, itemsD d = some [x, y] ∧ IntB x ∧ IntB y
abbrev duTs : DuI → List Tv := fun x => [.d (.list (isD x.β)), .d (.list x.items)]
abbrev duR : DuI → Rv → Prop := fun x r => r = .tv (.d (dueF x.β x.items))
abbrev spDu (K : PySem.W.Frag) : Sp := Pro K [] duTs duR
theorem good_nat {m : Nat} {x : PyData} (h : goodE m x = true) : x = iD (natD x) ∧ natD x < m := by
  cases x with
  | int z =>
    simp only [goodE, Bool.and_eq_true, decide_eq_true_eq] at h
    obtain ⟨h1, h2⟩ := h
    refine ⟨?_, ?_⟩
    · show PyData.int z = PyData.int ((z.toNat : Nat) : Int)
      rw [Int.toNat_of_nonneg h1]
    · show z.toNat < m
      omega
  | _ => cases h
theorem tr_law_due (x : DuI) : Trp K [] E (t_law_due K) 6 duTs duR x := by
  obtain ⟨β, items, bl, few, two⟩ := x
  have hm := bl.hi
  have hlo := bl.lo
  refine tr_seq (tr_set (t := .d (iD β.length)) (by rw [← isD_len (l := β)]; exact pn_lenD (pd rfl)) ?_)
  refine tr_seq (tr_par (i := 3) (j := 4) ?_ (by decide))
  refine tr_seq (tr_for (si_enumL (pd rfl)) (fun _ i b c γ => b = [] ∧ i ≤ items.length ∧ Wk γ [.d (.list (isD β)), .d (.list items), .d (iD β.length), .cel 1, .cel 0, .any, .any, .any] ∧ c = [lstC K (isD (snds (prs β.length items i))), lstC K (isD (fsts (prs β.length items i)))] ∧ (∀ j, j < i → kind β.length items j = none) ∧ PrOk β.length (prs β.length items i) ∧ (prs β.length items i).length = i) (fun ds e => ⟨rfl, Nat.zero_le _, Wk.refl _, rfl, fun j h => absurd h (Nat.not_lt_zero _), ⟨fun p m => (by cases m), List.nodup_nil, List.nodup_nil⟩, rfl⟩) ?_ ?_)
  · rintro ds i y b c γ rfl hy ⟨rfl, _, hw, rfl, hk, hok, hlen⟩
    obtain ⟨d, hd, rfl⟩ := enD_get hy
    have hi := (List.getElem?_eq_some_iff.mp hd).1
    obtain ⟨x, y, hxy, ix, iy⟩ := two d (List.mem_of_getElem? hd)
    refine ⟨_, _, tg_2, tr_wk (wk_set (wk_set hw)) ?_⟩
    have hpair : (goodE β.length x && goodE β.length y) = false → dueF β items = .tuple [iD i, .str "pair"] := fun hf => due_kind hk (by
      unfold kind
      rw [hd]
      dsimp only
      unfold cplD
      rw [hxy]
      dsimp only
      rw [hf]
      rfl)
    refine tr_seq (tr_for (si_items hxy (pd rfl)) (fun _ j b c γ => b = [] ∧ c = [lstC K (isD (snds (prs β.length items i))), lstC K (isD (fsts (prs β.length items i)))] ∧ Wk γ [.d (.list (isD β)), .d (.list items), .d (iD β.length), .cel 1, .cel 0, .d (iD i), .d d, .any] ∧ ∀ e, e ∈ [x, y].take j → goodE β.length e = true) (fun ds e => ⟨rfl, rfl, ⟨.inr rfl, .inr rfl, .inr rfl, .inr rfl, .inr rfl, .inr rfl, .inr rfl, .inr rfl, trivial⟩, fun e m => (by simp at m)⟩) ?_ ?_)
    · rintro ds j e b c γ rfl he ⟨rfl, rfl, hw, hg⟩
      have hie : IntB e := by
        have := List.mem_of_getElem? he
        simp at this
        rcases this with rfl | rfl
        · exact ix
        · exact iy
      refine ⟨_, _, tg_name, tr_wk (wk_set hw) ?_⟩
      refine tr_if (qt_entry hie (pd rfl) (pd rfl)) (fun hb => ?_) fun hb => tr_next ⟨rfl, rfl, ⟨.inr rfl, .inr rfl, .inr rfl, .inr rfl, .inr rfl, .inr rfl, .inr rfl, .inl rfl, trivial⟩, fun e' m => ?_⟩
      · have hb' : goodE β.length e = false := by simpa using hb
        refine tr_retD (x := .tuple [iD i, .str "pair"]) (pn_tup (ds := [iD i, .str "pair"]) (qa_cons (pd rfl) (qa_cons pc_str qa_nil)) (by simp)) ⟨rfl, ?_⟩
        show _ = Rv.tv (.d (dueF β items))
        rw [hpair]
        have := List.mem_of_getElem? he
        simp at this
        rcases this with rfl | rfl
        · rw [hb']; rfl
        · rw [hb', Bool.and_false]
      · rw [take_succ he] at m
        rcases List.mem_append.mp m with q | q
        · exact hg e' q
        · rw [List.mem_singleton.mp q]; simpa using hb
    · rintro ds b c γ rfl ⟨rfl, rfl, hw, hg⟩
      have gx : goodE β.length x = true := hg x (by simp)
      have gy : goodE β.length y = true := hg y (by simp)
      obtain ⟨ex, lx⟩ := good_nat gx
      obtain ⟨ey, ly⟩ := good_nat gy
      have hc : cplD β.length d = some (natD x, natD y) := by
        unfold cplD
        rw [hxy]
        dsimp only
        rw [gx, gy]
        rfl
      have hkind : kind β.length items i = if (fsts (prs β.length items i)).contains (natD x) || (snds (prs β.length items i)).contains (natD y) then some ("double" : Str) else none := by
        unfold kind
        rw [hd]
        dsimp only
        rw [hc]
      refine tr_wk hw ?_
      have i0 : ∀ {cs}, Pn K [] cs [.d (.list (isD β)), .d (.list items), .d (iD β.length), .cel 1, .cel 0, .d (iD i), .d d, .any] (tOp (rIxLT K) (tVar 6) (tC (.int 0))) (· = .d (iD (natD x))) := by
        intro cs
        exact pd_op (pd rfl) pc_int (ro_items hxy (by rw [← ex]; rfl))
      have i1 : ∀ {cs}, Pn K [] cs [.d (.list (isD β)), .d (.list items), .d (iD β.length), .cel 1, .cel 0, .d (iD i), .d d, .any] (tOp (rIxLT K) (tVar 6) (tC (.int 1))) (· = .d (iD (natD y))) := by
        intro cs
        exact pd_op (pd rfl) pc_int (ro_items hxy (by rw [← ey]; rfl))
      refine tr_seq (tr_if (b := (fsts (prs β.length items i)).contains (natD x) || (snds (prs β.length items i)).contains (natD y)) (qt_or (qt_of ?_) fun _ => qt_of ?_) (fun hb => ?_) fun hb => tr_next ?_)
      · rw [← any_isD]
        exact pd_op i0 (pc rfl) (ro_in (.c 1 _ rfl) sh_int ((fl_is _).sh (by decide)))
      · rw [← any_isD]
        exact pd_op i1 (pc rfl) (ro_in (.c 0 _ rfl) sh_int ((fl_is _).sh (by decide)))
      · refine tr_retD (x := .tuple [iD i, .str "double"]) (pn_tup (ds := [iD i, .str "double"]) (qa_cons (pd rfl) (qa_cons pc_str qa_nil)) (by simp)) ⟨rfl, ?_⟩
        show _ = Rv.tv (.d (dueF β items))
        rw [due_kind hk (by rw [hkind, hb]; rfl)]
      · have hb1 := (Bool.or_eq_false_iff.mp hb)
        have hs := prs_succ hd hc
        refine tr_seq (tr_append (T := (· = .d (iD (natD x)))) (k := 1) rfl rfl (by rw [isD_len]; unfold fsts; rw [List.length_map, hlen]; omega) i0 fun t e => ⟨_, e, ?_⟩)
        refine tr_append (T := (· = .d (iD (natD y)))) (k := 0) rfl rfl (by rw [isD_len]; unfold snds; rw [List.length_map, hlen]; omega) i1 fun t e => ⟨_, e, ?_⟩
        refine ⟨rfl, hi, ⟨.inr rfl, .inr rfl, .inr rfl, .inr rfl, .inr rfl, .inl rfl, .inl rfl, .inr rfl, trivial⟩, ?_, fun j hj => ?_, ?_, ?_⟩
        · rw [hs]
          unfold fsts snds
          rw [List.map_append, List.map_append, ← isD_app, ← isD_app]
          rfl
        · by_cases e : j = i
          · rw [e, hkind, hb]; rfl
          · exact hk j (by omega)
        · rw [hs]
          exact hok.push lx ly (by simpa using hb1.1) (by simpa using hb1.2)
        · rw [hs]
          simp [hlen]
  · rintro ds b c γ rfl ⟨rfl, _, hw, rfl, hk, hok, hlen⟩
    rw [enD_len] at hk hok hlen
    rw [enD_len]
    have hprs : prs β.length items items.length = items.filterMap (cplD β.length) := by
      unfold prs
      rw [List.take_length]
    generalize hps : items.filterMap (cplD β.length) = ps at hprs
    rw [hprs] at hok hlen ⊢
    have hdue := due_good hk
    rw [hps] at hdue
    have hf : (fsts ps).length = ps.length := by simp [fsts]
    have hs : (snds ps).length = ps.length := by simp [snds]
    refine tr_wk hw ?_
    refine tr_seq (tr_if (qt_of (pd_op (pn_lenL (pc rfl) (.c 1 _ rfl)) (pd rfl) ro_bl)) (fun hb => ?_) fun hb => tr_next ?_)
    · rw [isD_len, hf] at hb
      have hb' := of_decide_eq_true hb
      refine tr_retD (x := .tuple [iD items.length, .str "lacking"]) (pn_tup (ds := [iD items.length, .str "lacking"]) (qa_cons (pn_lenD (pd rfl)) (qa_cons pc_str qa_nil)) (by simp)) ⟨rfl, ?_⟩
      show _ = Rv.tv (.d (dueF β items))
      rw [hdue, if_pos (by omega)]
    · rw [isD_len, hf] at hb
      have hb' := of_decide_eq_false hb
      have hfew := hok.few
      have hpm : ps.length = β.length := by omega
      rw [if_neg (by omega)] at hdue
      have inF : ∀ {x : Nat}, x < β.length → x ∈ fsts ps := fun hx => nodup_full hok.n1 (fun y hy => by
        obtain ⟨p, hp, rfl⟩ := List.mem_map.mp hy
        exact (hok.lt p hp).1) (by omega) hx
      have ltF : ∀ {k : Nat}, k < ps.length → bk (fsts ps) k < β.length := fun hk => by
        obtain ⟨p, hp, e⟩ := List.mem_map.mp (bk_mem (l := fsts ps) (by rw [hf]; exact hk))
        rw [← e]; exact (hok.lt p hp).1
      have ltS : ∀ {k : Nat}, k < ps.length → bk (snds ps) k < β.length := fun hk => by
        obtain ⟨p, hp, e⟩ := List.mem_map.mp (bk_mem (l := snds ps) (by rw [hs]; exact hk))
        rw [← e]; exact (hok.lt p hp).2
      refine tr_seq (tr_for (si_rng1 (n := β.length) (pd rfl) (by omega)) (fun _ k b c γ => b = [] ∧ c = [lstC K (isD (snds ps)), lstC K (isD (fsts ps))] ∧ Wk γ [.d (.list (isD β)), .d (.list items), .d (iD β.length), .cel 1, .cel 0, .any, .any, .any] ∧ ∀ j, j < k → backOk β ps j = true) (fun ds e => ⟨rfl, rfl, Wk.refl _, fun j h => absurd h (Nat.not_lt_zero _)⟩) ?_ ?_)
      · rintro ds k y b c γ rfl hy ⟨rfl, rfl, hw, hB⟩
        obtain ⟨hk2, rfl⟩ := rgD_get hy
        rw [Nat.zero_add]
        have hkp : k < ps.length := by omega
        have hx1 := bl.lt _ (ltF hkp)
        have hin := inF hx1
        have hix := List.idxOf_lt_length_iff.mpr hin
        refine ⟨_, _, tg_name, tr_wk (wk_set hw) ?_⟩
        refine tr_if (b := !backOk β ps k) (qt_of ((pd_op (pd_op (pd rfl) (pd_op (pc rfl) (pd rfl) (ro_ix (.c 0 _ rfl) (isD_atI (l := snds ps) (i := k) (by omega)))) (ro_ixL (isD_atI (ltS hkp)))) (pd_op (pc rfl) (pn_indexC (k := 1) (l := fsts ps) rfl rfl (pd_op (pd rfl) (pd_op (pc rfl) (pd rfl) (ro_ix (.c 1 _ rfl) (isD_atI (l := fsts ps) (i := k) (by omega)))) (ro_ixL (isD_atI (ltF hkp)))) hin) (ro_ix (.c 0 _ rfl) (isD_atI (l := snds ps) (by rw [hs, ← hf]; exact hix)))) (ro_ne sh_int sh_int)).mono fun t e => ?_)) (fun hb => ?_) fun hb => tr_next ⟨rfl, rfl, ⟨.inr rfl, .inr rfl, .inr rfl, .inr rfl, .inr rfl, .inl rfl, .inr rfl, .inr rfl, trivial⟩, fun j hj => ?_⟩
        · rw [e, eqv_int]
          congr 3
          show decide _ = decide _
          exact decide_eq_decide.mpr ⟨fun h => by omega, fun h => by rw [h]⟩
        · refine tr_retD (x := .tuple [iD k, .str "back"]) (pn_tup (ds := [iD k, .str "back"]) (qa_cons (pd rfl) (qa_cons pc_str qa_nil)) (by simp)) ⟨rfl, ?_⟩
          show _ = Rv.tv (.d (dueF β items))
          rw [hdue, find_range hkp hb fun j hj => by rw [hB j hj]; rfl]
        · by_cases e : j = k
          · rw [e]; simpa using hb
          · exact hB j (by omega)
      · rintro ds b c γ rfl ⟨rfl, rfl, hw, hB⟩
        rw [rgD_len] at hB
        refine tr_wk hw (tr_retD (x := .none) pc_non ⟨rfl, ?_⟩)
        show _ = Rv.tv (.d (dueF β items))
        rw [hdue, find_range_none fun j hj => by rw [hB j (by omega)]; rfl]
end
end Z
set_option Elab.async false
set_option linter.all false
set_option maxRecDepth 100000
set_option maxHeartbeats 1000000
namespace Z
open PySem PySem.Spec PyProof.Rows L2
open PySem.W (minD AlikeAll dataLt alike alikeAll dataLt_cons dataLt_tuple dataLt_int keyToksAll)
/-! ### the order of lists of threes -/
def tsD (l : List T3) : PyData := .tuple (l.map tD)
def ltL : List T3 → List T3 → Bool
  | [], [] => false
  | [], _ :: _ => true
  | _ :: _, [] => false
  | x :: xs, y :: ys => if x = y then ltL xs ys else decide (ltT x y)
theorem eqv_tt {t u : T3} : PyData.eqv (tD t) (tD u) = decide (t = u) := by
  rw [Bool.eq_iff_iff, eqv_iff _ _ (nb_t t) (nb_t u), decide_eq_true_iff]
  exact ⟨tD_inj, fun e => by rw [e]⟩
theorem dataLt_ts : ∀ a b : List T3, dataLt (tsD a) (tsD b) = ltL a b := by
  intro a b
  unfold tsD
  rw [dataLt_tuple]
  induction a generalizing b with
  | nil =>
    cases b with
    | nil => exact PyProof.Rows.lex_irrefl _
    | cons y ys =>
      show PyProof.Rows.lexLt itemOrd (keyToksAll []) (keyToksAll (tD y :: ys.map tD)) = true
      rw [PySem.W.toks_all_cons]
      simp only [keyToksAll]
      rw [lex_diff (O := itemOrd) (by decide)]
      rfl
  | cons x xs ih =>
    cases b with
    | nil =>
      show PyProof.Rows.lexLt itemOrd (keyToksAll (tD x :: xs.map tD)) (keyToksAll []) = false
      rw [PySem.W.toks_all_cons]
      simp only [keyToksAll]
      rw [lex_diff (O := itemOrd) (by decide)]
      rfl
    | cons y ys =>
      show PyProof.Rows.lexLt itemOrd (keyToksAll (tD x :: xs.map tD)) (keyToksAll (tD y :: ys.map tD)) = _
      rw [dataLt_cons (alike_t x y), eqv_tt, dataLt_t, ih]
      unfold ltL
      by_cases e : x = y
      · rw [if_pos (decide_eq_true e), if_pos e]
        cases xs <;> cases ys <;> rfl
      · rw [if_neg (by simp [e]), if_neg e]
theorem ltL_irr : ∀ a : List T3, ltL a a = false
  | [] => rfl
  | x :: xs => by
    unfold ltL
    rw [if_pos rfl]
    exact ltL_irr xs
theorem ltL_trans : ∀ {a b c : List T3}, ltL a b = true → ltL b c = true → ltL a c = true
  | [], [], c, h, g => by cases h
  | [], _ :: _, [], h, g => by cases g
  | [], _ :: _, _ :: _, h, g => rfl
  | _ :: _, [], c, h, g => by cases h
  | _ :: _, _ :: _, [], h, g => by cases g
  | x :: xs, y :: ys, z :: zs, h, g => by
    unfold ltL at h g ⊢
    by_cases e1 : x = y
    · rw [if_pos e1] at h
      by_cases e2 : y = z
      · rw [if_pos e2] at g
        rw [if_pos (e1.trans e2)]
        exact ltL_trans h g
      · rw [if_neg e2] at g
        rw [e1, if_neg e2]
        exact g
    · rw [if_neg e1] at h
      by_cases e2 : y = z
      · rw [← e2, if_neg e1]
        exact h
      · rw [if_neg e2] at g
        have := ltT_trans (of_decide_eq_true h) (of_decide_eq_true g)
        rw [if_neg fun e => by rw [e] at this; exact ltT_irr _ this]
        exact decide_eq_true this
theorem ltL_tot : ∀ {a b : List T3}, ltL a b = false → ltL b a = false → a = b
  | [], [], _, _ => rfl
  | [], _ :: _, h, _ => by cases h
  | _ :: _, [], _, g => by cases g
  | x :: xs, y :: ys, h, g => by
    unfold ltL at h g
    by_cases e : x = y
    · rw [if_pos e] at h
      rw [if_pos e.symm] at g
      rw [e, ltL_tot h g]
    · rw [if_neg e] at h
      rw [if_neg fun z => e z.symm] at g
      exact absurd (ltT_tot (of_decide_eq_false h) (of_decide_eq_false g)) e
/-- the least of some lists -/
def minL (x : List T3) (xs : List (List T3)) : List T3 := xs.foldl (fun a y => if ltL y a = true then y else a) x
theorem minD_ts : ∀ (xs : List (List T3)) (x : List T3), minD (tsD x) (xs.map tsD) = tsD (minL x xs) := by
  intro xs
  induction xs with
  | nil => intro x; rfl
  | cons y ys ih =>
    intro x
    show minD (if dataLt (tsD y) (tsD x) = true then tsD y else tsD x) (ys.map tsD) = tsD (minL (if ltL y x = true then y else x) ys)
    rw [dataLt_ts]
    by_cases q : ltL y x = true
    · rw [if_pos q, if_pos q]; exact ih y
    · rw [if_neg q, if_neg q]; exact ih x
theorem minL_spec : ∀ (xs : List (List T3)) (x : List T3), minL x xs ∈ x :: xs ∧ ∀ u, u ∈ x :: xs → ltL u (minL x xs) = false := by
  intro xs
  induction xs with
  | nil => intro x; exact ⟨List.mem_cons_self, fun u hu => by rw [List.mem_singleton.mp hu]; exact ltL_irr _⟩
  | cons y ys ih =>
    intro x
    obtain ⟨h1, h2⟩ := ih (if ltL y x = true then y else x)
    have e : minL x (y :: ys) = minL (if ltL y x = true then y else x) ys := rfl
    rw [e]
    refine ⟨?_, fun u hu => ?_⟩
    · rcases List.mem_cons.mp h1 with q | q
      · rw [q]
        split <;> simp
      · exact List.mem_cons_of_mem _ (List.mem_cons_of_mem _ q)
    · generalize hv : minL (if ltL y x = true then y else x) ys = v at h1 h2 ⊢
      have h0 := h2 _ List.mem_cons_self
      have key : ∀ {z : List T3}, ltL z (if ltL y x = true then y else x) = false → ltL z v = false := fun {z} hz => by
        cases q : ltL z v with
        | false => rfl
        | true =>
          exfalso
          cases q2 : ltL (if ltL y x = true then y else x) z with
          | true => rw [ltL_trans q2 q] at h0; cases h0
          | false =>
            have := ltL_tot hz q2
            rw [← this, q] at h0
            cases h0
      rcases List.mem_cons.mp hu with q | q
      · rw [q]
        refine key ?_
        by_cases c : ltL y x = true
        · rw [if_pos c]
          cases q3 : ltL x y with
          | false => rfl
          | true => have := ltL_trans c q3; rw [ltL_irr] at this; cases this
        · rw [if_neg c]; exact ltL_irr _
      · rcases List.mem_cons.mp q with q | q
        · rw [q]
          refine key ?_
          by_cases c : ltL y x = true
          · rw [if_pos c]; exact ltL_irr _
          · rw [if_neg c]; simpa using c
        · exact h2 u (List.mem_cons_of_mem _ q)
/-- the least of the same lists -/
theorem minL_same {x y : List T3} {xs ys : List (List T3)} (h : ∀ u, u ∈ x :: xs ↔ u ∈ y :: ys) : minL x xs = minL y ys := by
  obtain ⟨h1, h2⟩ := minL_spec xs x
  obtain ⟨g1, g2⟩ := minL_spec ys y
  exact ltL_tot (g2 _ ((h _).mp h1)) (h2 _ ((h _).mpr g1))
theorem alikeAll_ts : ∀ a b : List T3, alikeAll (a.map tD) (b.map tD) = true
  | [], b => by cases b <;> simp [alikeAll]
  | x :: xs, [] => by simp [alikeAll]
  | x :: xs, y :: ys => by
    have := alikeAll_ts xs ys
    simp only [List.map_cons, alikeAll, alike_t, this, Bool.and_self]
theorem alike_ts (a b : List T3) : alike (tsD a) (tsD b) = true := by
  have := alikeAll_ts a b
  simp only [tsD, alike, this]
end Z
set_option Elab.async false
set_option linter.all false
set_option maxRecDepth 100000
set_option maxHeartbeats 1000000
namespace Z
open PySem PySem.Spec PyProof.Rows L2
/-! ### namings are a group -/
theorem ord_iff {m : Nat} : ∀ {k : Nat} {r : List Nat}, r ∈ ordK m k ↔ Row m k r := by
  intro k r
  refine ⟨ord_row, fun h => ?_⟩
  induction k generalizing r with
  | zero =>
    have : r = [] := List.length_eq_zero_iff.mp h.1
    rw [this]
    exact List.mem_singleton.mpr rfl
  | succ k ih =>
    have hne : r ≠ [] := fun e => by have := h.1; rw [e] at this; simp at this
    have e : r = r.dropLast ++ [r.getLast hne] := (List.dropLast_concat_getLast hne).symm
    obtain ⟨h1, h2, h3⟩ := h
    have nd := h3
    rw [e] at nd
    have nd' := List.nodup_append.mp nd
    simp only [ordK, extR, List.mem_flatMap, List.mem_map, List.mem_filter, List.mem_range]
    refine ⟨r.dropLast, ih ⟨by simp [h1], fun x hx => h2 x (List.dropLast_subset _ hx), nd'.1⟩, r.getLast hne, ⟨h2 _ (List.getLast_mem hne), ?_⟩, e.symm⟩
    have : r.getLast hne ∉ r.dropLast := fun z => nd'.2.2 _ z _ List.mem_cons_self rfl
    simpa using this
theorem nam_iff {β r : List Nat} : r ∈ namings β ↔ Row β.length β.length r ∧ kp β r = true := by
  unfold namings
  rw [List.mem_filter, ord_iff]
theorem bk_get {l : List Nat} {i : Nat} (h : i < l.length) : bk l i = l[i] := by
  unfold bk
  rw [List.getD_eq_getElem?_getD, List.getElem?_eq_getElem h]
  rfl
theorem row_inj {m : Nat} {r : List Nat} (h : Row m m r) {i j : Nat} (hi : i < m) (hj : j < m) (e : bk r i = bk r j) : i = j := by
  have hi' : i < r.length := by rw [h.1]; exact hi
  have hj' : j < r.length := by rw [h.1]; exact hj
  rw [bk_get hi', bk_get hj'] at e
  exact (List.getElem_inj h.2.2).mp e
theorem row_idx {m : Nat} {r : List Nat} (h : Row m m r) {x : Nat} (hx : x < m) : r.idxOf x < m ∧ bk r (r.idxOf x) = x := by
  have hin := nodup_full h.2.2 h.2.1 h.1 hx
  have hl := List.idxOf_lt_length_iff.mpr hin
  exact ⟨by rw [← h.1]; exact hl, by rw [bk_get hl]; exact List.getElem_idxOf hl⟩
theorem row_idx_bk {m : Nat} {r : List Nat} (h : Row m m r) {i : Nat} (hi : i < m) : r.idxOf (bk r i) = i := by
  obtain ⟨h1, h2⟩ := row_idx h (row_lt h hi)
  exact row_inj h h1 hi h2
theorem map_row {m : Nat} {f : Nat → Nat} (lt : ∀ i, i < m → f i < m) (inj : ∀ i j, i < m → j < m → f i = f j → i = j) : Row m m ((List.range m).map f) := by
  refine ⟨by simp, fun x hx => ?_, ?_⟩
  · obtain ⟨i, hi, rfl⟩ := List.mem_map.mp hx
    exact lt i (List.mem_range.mp hi)
  · rw [List.nodup_iff_pairwise_ne, List.pairwise_map]
    exact (List.nodup_range (n := m)).imp_of_mem fun {a b} ha hb hab e => hab (inj a b (List.mem_range.mp ha) (List.mem_range.mp hb) e)
theorem kp_map {β : List Nat} (bl : Bks β) {f : Nat → Nat} (lt : ∀ i, i < β.length → f i < β.length) : kp β ((List.range β.length).map f) = true ↔ ∀ t, t < β.length → bk β (f t) = f (bk β t) := by
  rw [kp_iff]
  constructor
  · intro h t ht
    have := h t ht
    rwa [bk_map ht, bk_map (bl.lt t ht)] at this
  · intro h t ht
    rw [bk_map ht, bk_map (bl.lt t ht)]
    exact h t ht
def idR (β : List Nat) : List Nat := (List.range β.length).map fun t => t
def compR (β s r : List Nat) : List Nat := (List.range β.length).map fun t => bk s (bk r t)
def invR (β r : List Nat) : List Nat := (List.range β.length).map fun x => r.idxOf x
theorem id_nam {β : List Nat} (bl : Bks β) : idR β ∈ namings β := nam_iff.mpr ⟨map_row (fun _ h => h) (fun _ _ _ _ e => e), (kp_map bl fun _ h => h).mpr fun _ _ => rfl⟩
theorem comp_nam {β s r : List Nat} (bl : Bks β) (hs : s ∈ namings β) (hr : r ∈ namings β) : compR β s r ∈ namings β := by
  obtain ⟨rs, ks⟩ := nam_iff.mp hs
  obtain ⟨rr, kr⟩ := nam_iff.mp hr
  have lt : ∀ i, i < β.length → bk s (bk r i) < β.length := fun i hi => row_lt rs (row_lt rr hi)
  refine nam_iff.mpr ⟨map_row lt fun i j hi hj e => row_inj rr hi hj (row_inj rs (row_lt rr hi) (row_lt rr hj) e), (kp_map bl lt).mpr fun t ht => ?_⟩
  rw [kp_iff.mp ks _ (row_lt rr ht), kp_iff.mp kr t ht]
theorem inv_nam {β r : List Nat} (bl : Bks β) (hr : r ∈ namings β) : invR β r ∈ namings β := by
  obtain ⟨rr, kr⟩ := nam_iff.mp hr
  have lt : ∀ x, x < β.length → r.idxOf x < β.length := fun x hx => (row_idx rr hx).1
  refine nam_iff.mpr ⟨map_row lt fun i j hi hj e => ?_, (kp_map bl lt).mpr fun x hx => ?_⟩
  · have := congrArg (bk r) e
    rwa [(row_idx rr hi).2, (row_idx rr hj).2] at this
  · obtain ⟨h1, h2⟩ := row_idx rr hx
    have h3 := kp_iff.mp kr _ h1
    rw [h2] at h3
    rw [h3, row_idx_bk rr (bl.lt _ h1)]
theorem nu_id {β : List Nat} {t : T3} (h : In3 β.length t) : nu (idR β) t = t := by
  unfold nu idR
  rw [bk_map h.1, bk_map h.2.1, bk_map h.2.2]
theorem nu_comp {β s r : List Nat} {t : T3} (h : In3 β.length t) : nu (compR β s r) t = nu s (nu r t) := by
  unfold nu compR
  rw [bk_map h.1, bk_map h.2.1, bk_map h.2.2]
theorem nu_inv {β r : List Nat} (hr : Row β.length β.length r) {t : T3} (h : In3 β.length t) : nu (invR β r) (nu r t) = t := by
  unfold nu invR
  rw [bk_map (row_lt hr h.1), bk_map (row_lt hr h.2.1), bk_map (row_lt hr h.2.2), row_idx_bk hr h.1, row_idx_bk hr h.2.1, row_idx_bk hr h.2.2]
theorem nu_sur {β r : List Nat} (hr : Row β.length β.length r) {u : T3} (h : In3 β.length u) : ∃ t, In3 β.length t ∧ nu r t = u := by
  obtain ⟨a1, a2⟩ := row_idx hr h.1
  obtain ⟨b1, b2⟩ := row_idx hr h.2.1
  obtain ⟨c1, c2⟩ := row_idx hr h.2.2
  exact ⟨(r.idxOf u.1, r.idxOf u.2.1, r.idxOf u.2.2), ⟨a1, b1, c1⟩, by
    unfold nu
    rw [a2, b2, c2]⟩
theorem nu_rd {β r : List Nat} (bl : Bks β) (hr : r ∈ namings β) {t : T3} (h : In3 β.length t) : readings (bk β) (nu r t) = (readings (bk β) t).map (nu r) := by
  obtain ⟨rr, kr⟩ := nam_iff.mp hr
  have k := kp_iff.mp kr
  simp only [readings, nu, List.map_cons, List.map_nil, k _ h.1, k _ h.2.1, k _ h.2.2]
/-- a closed book, renamed -/
theorem ren_at {β r : List Nat} {B : T3 → Bool} (bl : Bks β) (cl : Clsd β B) (hr : r ∈ namings β) {t : T3} (h : In3 β.length t) : ren β r B (nu r t) = B t := by
  have rr := nam_row hr
  rw [Bool.eq_iff_iff]
  unfold ren
  rw [clo_iff]
  constructor
  · rintro ⟨x, hx, hm⟩
    obtain ⟨y, hy, rfl⟩ := List.mem_map.mp hx
    obtain ⟨yi, yb⟩ := bar_mem.mp hy
    rw [nu_rd bl hr yi] at hm
    obtain ⟨z, hz, e⟩ := List.mem_map.mp hm
    have zi := rd_in bl yi hz
    have : z = t := by
      have h1 := congrArg (nu (invR β r)) e
      rwa [nu_inv rr zi, nu_inv rr h] at h1
    rw [← this, cl y yi z hz, yb]
  · intro hb
    exact ⟨nu r t, List.mem_map.mpr ⟨t, bar_mem.mpr ⟨h, hb⟩, rfl⟩, rd_self _ _⟩
theorem bar_eq {m : Nat} {A B : T3 → Bool} : barL m A = barL m B ↔ ∀ t, In3 m t → A t = B t := by
  constructor
  · intro e t ht
    rw [Bool.eq_iff_iff]
    have h1 := bar_mem (m := m) (B := A) (t := t)
    have h2 := bar_mem (m := m) (B := B) (t := t)
    rw [e] at h1
    constructor
    · intro h; exact (h2.mp (h1.mpr ⟨ht, h⟩)).2
    · intro h; exact (h1.mp (h2.mpr ⟨ht, h⟩)).2
  · exact barL_congr
theorem ren_congr {β r : List Nat} {A B : T3 → Bool} (h : barL β.length A = barL β.length B) : ren β r A = ren β r B := by
  unfold ren
  rw [h]
theorem ren_id {β : List Nat} {B : T3 → Bool} (bl : Bks β) (cl : Clsd β B) : barL β.length (ren β (idR β) B) = barL β.length B := bar_eq.mpr fun t ht => by
  have := ren_at bl cl (id_nam bl) ht
  rwa [nu_id ht] at this
theorem ren_comp {β s r : List Nat} {B : T3 → Bool} (bl : Bks β) (cl : Clsd β B) (hs : s ∈ namings β) (hr : r ∈ namings β) : barL β.length (ren β s (ren β r B)) = barL β.length (ren β (compR β s r) B) := bar_eq.mpr fun u hu => by
  have rr := nam_row hr
  have rs := nam_row hs
  obtain ⟨v, vi, rfl⟩ := nu_sur rs hu
  obtain ⟨t, ti, rfl⟩ := nu_sur rr vi
  rw [ren_at bl (ren_cl bl rr) hs vi, ren_at bl cl hr ti, ← nu_comp ti, ren_at bl cl (comp_nam bl hs hr) ti]
theorem ren_inv {β r : List Nat} {B : T3 → Bool} (bl : Bks β) (cl : Clsd β B) (hr : r ∈ namings β) : barL β.length (ren β (invR β r) (ren β r B)) = barL β.length B := bar_eq.mpr fun t ht => by
  have rr := nam_row hr
  have h1 := ren_at bl (ren_cl (B := B) bl rr) (inv_nam bl hr) (nu_in rr ht)
  rw [nu_inv rr ht] at h1
  rw [h1, ren_at bl cl hr ht]
/-! ### the orbit, the least -/
def orb (β : List Nat) (B : T3 → Bool) : List (List T3) := (namings β).map fun r => barL β.length (ren β r B)
theorem orb_mem {β : List Nat} {B : T3 → Bool} {u : List T3} : u ∈ orb β B ↔ ∃ r, r ∈ namings β ∧ barL β.length (ren β r B) = u := by
  unfold orb
  rw [List.mem_map]
theorem orb_self {β : List Nat} {B : T3 → Bool} (bl : Bks β) (cl : Clsd β B) : barL β.length B ∈ orb β B := orb_mem.mpr ⟨_, id_nam bl, ren_id bl cl⟩
theorem orb_sub {β r : List Nat} {A B : T3 → Bool} (bl : Bks β) (cl : Clsd β B) (hr : r ∈ namings β) (h : barL β.length (ren β r B) = barL β.length A) {u : List T3} (hu : u ∈ orb β A) : u ∈ orb β B := by
  obtain ⟨s, hs, e⟩ := orb_mem.mp hu
  refine orb_mem.mpr ⟨_, comp_nam bl hs hr, ?_⟩
  rw [← ren_comp bl cl hs hr, ren_congr h, e]
theorem orb_back {β r : List Nat} {A B : T3 → Bool} (bl : Bks β) (cl : Clsd β B) (hr : r ∈ namings β) (h : barL β.length (ren β r B) = barL β.length A) : barL β.length (ren β (invR β r) A) = barL β.length B := by
  rw [← ren_congr h]
  exact ren_inv bl cl hr
theorem orb_same {β r : List Nat} {A B : T3 → Bool} (bl : Bks β) (clA : Clsd β A) (cl : Clsd β B) (hr : r ∈ namings β) (h : barL β.length (ren β r B) = barL β.length A) (u : List T3) : u ∈ orb β A ↔ u ∈ orb β B :=
  ⟨orb_sub bl cl hr h, orb_sub bl clA (inv_nam bl hr) (orb_back bl cl hr h)⟩
def leastL (β : List Nat) (B : T3 → Bool) : List T3 := minL (barL β.length B) (orb β B)
theorem least_mem {β : List Nat} {B : T3 → Bool} (bl : Bks β) (cl : Clsd β B) : leastL β B ∈ orb β B := by
  rcases List.mem_cons.mp (minL_spec (orb β B) (barL β.length B)).1 with e | h
  · unfold leastL
    rw [e]; exact orb_self bl cl
  · exact h
theorem cons_orb {β : List Nat} {B : T3 → Bool} (bl : Bks β) (cl : Clsd β B) (u : List T3) : u ∈ barL β.length B :: orb β B ↔ u ∈ orb β B :=
  ⟨fun h => by
    rcases List.mem_cons.mp h with e | h
    · rw [e]; exact orb_self bl cl
    · exact h, List.mem_cons_of_mem _⟩
/-- the least of an orbit tells the orbit -/
theorem least_iff {β : List Nat} {A B : T3 → Bool} (bl : Bks β) (clA : Clsd β A) (clB : Clsd β B) : leastL β A = leastL β B ↔ ∃ r, r ∈ namings β ∧ barL β.length (ren β r A) = barL β.length B := by
  constructor
  · intro e
    obtain ⟨r, hr, er⟩ := orb_mem.mp (least_mem bl clA)
    obtain ⟨s, hs, es⟩ := orb_mem.mp (least_mem bl clB)
    rw [e, ← es] at er
    refine ⟨compR β (invR β s) r, comp_nam bl (inv_nam bl hs) hr, ?_⟩
    rw [← ren_comp bl clA (inv_nam bl hs) hr, ren_congr er]
    exact ren_inv bl clB hs
  · rintro ⟨r, hr, e⟩
    refine minL_same fun u => ?_
    rw [cons_orb bl clA, cons_orb bl clB]
    exact (orb_same bl clB clA hr e u).symm
/-- any order of the orbit gives the same least -/
theorem least_of {β : List Nat} {B : T3 → Bool} (bl : Bks β) (cl : Clsd β B) {x : List T3} {xs : List (List T3)} (h : x :: xs = orb β B) : minL x xs = leastL β B := minL_same fun u => by
  rw [h, cons_orb bl cl]
/-! ### due, hit -/
theorem due_none {β : List Nat} {A B : T3 → Bool} : dueD β A B = .none ↔ ¬ ∃ r, r ∈ namings β ∧ barL β.length (ren β r A) = barL β.length B := by
  unfold dueD
  cases q : (namings β).find? (hit β A B) with
  | none =>
    refine ⟨fun _ ⟨r, hr, e⟩ => ?_, fun _ => rfl⟩
    have := List.find?_eq_none.mp q r hr
    exact this (decide_eq_true e)
  | some r =>
    refine ⟨fun h => (by unfold cpl at h; cases h), fun h => ?_⟩
    have hh : hit β A B r = true := List.find?_some q
    exact absurd ⟨r, List.mem_of_find?_eq_some q, of_decide_eq_true hh⟩ h
/-! ### lets and fits -/
theorem lets_fits {β r g : List Nat} {B : T3 → Bool} {n : Nat} {f : Nat → Nat → Nat} (bl : Bks β) (cl : Clsd β B) (hr : r ∈ namings β) (tab : Tab β n f) (c : CoI) (hβ : c.β = β) (hg : c.g.length = n) (hrows : c.rows = rowsOf n fun i j => bk r (f i j)) :
    free c (ren β r B) ↔ fits B n f := by
  have rr := nam_row hr
  have kr := kp_iff.mp (nam_iff.mp hr).2
  have ht : ∀ {i j : Nat}, i < j → j < n → tie c.β c.rows i j = bk r (f i j) := fun {i j} hij hj => by
    unfold tie
    rw [hβ, hrows]
    unfold rowsOf
    rw [List.getD_eq_getElem?_getD, range_map_at hj]
    show bk β (bk ((List.range j).map fun j' => bk r (f j j')) i) = _
    rw [bk_map hij, kr _ (tab.lt j i hij hj), ← tab.up j i hij hj]
  have hin : ∀ {i j k : Nat}, i < j → j < k → k < n → In3 β.length (f i j, f j k, f i k) := fun {i j k} h1 h2 h3 => by
    have u1 := tab.up j i h1 (by omega)
    have u2 := tab.up k j h2 h3
    have u3 := tab.up k i (by omega) h3
    refine ⟨?_, ?_, ?_⟩
    · show f i j < _
      rw [u1]; exact bl.lt _ (tab.lt j i h1 (by omega))
    · show f j k < _
      rw [u2]; exact bl.lt _ (tab.lt k j h2 h3)
    · show f i k < _
      rw [u3]; exact bl.lt _ (tab.lt k i (by omega) h3)
  have key : ∀ {i j k : Nat}, i < j → j < k → k < n → B (f k j, f j i, f k i) = B (f i j, f j k, f i k) := fun {i j k} h1 h2 h3 => by
    refine cl _ (hin h1 h2 h3) _ ?_
    have b1 : bk β (f i j) = f j i := by rw [tab.up j i h1 (by omega)]; exact bl.inv _ (tab.lt j i h1 (by omega))
    have b2 : bk β (f j k) = f k j := by rw [tab.up k j h2 h3]; exact bl.inv _ (tab.lt k j h2 h3)
    have b3 : bk β (f i k) = f k i := by rw [tab.up k i (by omega) h3]; exact bl.inv _ (tab.lt k i (by omega) h3)
    simp [readings, b1, b2, b3]
  have one : ∀ {i j k : Nat}, i < j → j < k → k < n → ren β r B (tie c.β c.rows i j, tie c.β c.rows j k, tie c.β c.rows i k) = B (f i j, f j k, f i k) := fun {i j k} h1 h2 h3 => by
    rw [ht h1 (by omega), ht h2 h3, ht (by omega) h3]
    exact ren_at bl cl hr (hin h1 h2 h3)
  constructor
  · intro h i j k hk hj hi
    rw [key hk hj hi, ← one hk hj hi]
    exact h k j i hk hj (by rw [hg]; exact hi)
  · intro h i j k h1 h2 h3
    rw [hg] at h3
    rw [one h1 h2 h3, ← key h1 h2 h3]
    exact h k j i h1 h2 h3
end Z
set_option Elab.async false
set_option linter.all false
set_option maxRecDepth 100000
set_option maxHeartbeats 2000000
namespace Z
open PySem PySem.Spec PySem.Calls PyProof.Rows L2
open PySem.W (Frag nsIn clsIn mroIn subIn findIn typeIn keepIn codeIn hasDictIn Looks ksEnv ksFn ks_superObj ks_superIn kxs_mw KxsAt looks_clsIn looks_mroIn looks_subIn looks_opaque alongIn)
/-- what the head tells of an error class at C whose __init__ (at fI) says super().__init__(text) -/
structure SupTxt (K : Frag) (mg : Str → Option Value) (P : Program) (C : Addr) : Prop where
  cls : ∃ nm q N bs bm sn sub ab col dd k0 k1 k2 k3 k5, K.lookup C = some (excClassObj nm q C N bs bm true sn sub ab col dd k0 k1 k2 k3 k5 "ValueError.__new__") ∧ PySem.HandSPX.refsVE bm = true
  sa : findIn K (.ref C) "__setattr__" = some (some (.builtin "object.__setattr__"))
  sup : ks_superIn K C C "__init__" = some (some (.builtin "ValueError.__init__"))
  isV : subIn K (.ref C) (.type "ValueError") = some true
  me : mroIn K C (.ref C) = some true
  opq : nsIn K PySem.cStatics "thirdparty.any" = some none
  nosup : mg "super" = none
  top : (P.main.scope.names.lookup ("super" : Str)).isSome = false
section
variable {prog : Program} {w : World} {A : Around} {E : Value → Shared → Prop}
/-- Exception's own __init__ through the wrapper, ValueError's -/
theorem call_bwV {h : Heap} {g : Array GenState} {d : PySem.Drawn} {t : Nat} {os : OsState} {nm q : Str} {C N : Addr} {bs bm : List Value} {hdct : Bool} {sn : List Str} {sub : List Value} {ab : Bool} {col : Option Bool} {dd : Option Addr} {k0 k1 k2 k3 k5 : Option Value} {u e t0 : Addr} {rest : List Value} {Q : Value → Shared → Prop}
    (hC : h.get? C = some (excClassObj nm q C N bs bm hdct sn sub ab col dd k0 k1 k2 k3 k5 "ValueError.__new__")) (he : h.get? e = some (PySem.HandSPX.excO C t0)) (hu : h.get? u = some (kxs_mw "ValueError.__init__" e)) (hrest : rest.length ≤ sizeLine)
    (hq : ∀ h' t1, (∀ b o, b ≠ e → h.get? b = some o → h'.get? b = some o) → h'.get? e = some (PySem.HandSPX.excO C t1) → Q .none ⟨h', g, d, t, os⟩) :
    wpAny (model prog w) A (call (.ref u) rest) Q E ⟨h, g, d, t, os⟩ := by
  refine wpAny_call (codeAny_of_tree ?_)
  show wpAny _ A.in1 (callAny (.ref u) ⟨rest, []⟩) _ _ _
  simp only [callAny]
  refine wpAny_bind (wpAny_load hu ?_)
  simp only [kxs_mw, show (Value.type "method-wrapper" == Value.type "method" || Value.type "method-wrapper" == Value.type "builtin_function_or_method" || Value.type "method-wrapper" == Value.type "method-wrapper") = true by decide, if_true]
  refine PySem.W.KFB.if_so (by decide) ?_
  refine wpAny_bind (PySem.ESX.check_bound F.excBase_ValueError hC he rfl ?_)
  refine wpAny_bind (wpAny_pure (wpAny_pure ?_))
  refine ⟨Code.quiet_builtin _ (by decide +kernel), codeAny_builtin F.excBase_ValueError.initEntry ?_⟩
  rw [Around.under_plainId F.excBase_ValueError.init.plain _]
  wp_walk
  refine hq _ h.objs.size (fun b o hb ho => ?_) ?_
  · rw [Heap.get?_update_other _ _ (Ne.symm hb)]
    exact Heap.get?_push_of_some _ ho
  · rw [Heap.get?_update_self _ (Heap.get?_push_of_some _ he) rfl]
    rfl
/-- the statement super().__init__(text) -/
theorem sup_step {K : Frag} {mg mb m : Str → Option Value} {s : Shared} {C cc cda f x t0 L : Addr} {q : Str} {scope : Scope} {body : List Stmt} {fd : FuncData} {ar : Arg} {vs : Array Value} {file : Str} {tf : Tok} {oc ccl cl : Value} {od cdd cld : Option Addr} {osl ccs csl : Array (Option Value)} {msg : Str} {pl : Sem Bool} {j : Nat} {p0 p1 p2 p3 p4 p5 : Pos} {Q : Flow → Shared → Prop}
    (T : SupTxt K mg prog C) (X : K.In s.heap) (G : s.heap.Ns mainGlobals mg) (B : s.heap.Ns builtinsNs mb) (hb : mb "super" = some (.type "super")) (hL : s.heap.Ns L m) (hself : m ar.arg = some (.ref x)) (hx : s.heap.get? x = some (PySem.HandSPX.excO C t0))
    (hf : K.lookup f = some ⟨oc, od, .func fd, osl⟩) (hp : (fd.params.posonlyargs ++ fd.params.args).head? = some ar) (hcode : K.lookup cda = some ⟨ccl, cdd, .fields vs, ccs⟩) (hvs : vs[2]? = some (.str file tf)) (hfile : ((prog.main.file : Str) == file) = true)
    (hcell : K.lookup cc = some ⟨cl, cld, .cell (some (.ref C)), csl⟩) (hks : scope.names.lookup ("super" : Str) = some .globalImplicit) (hkc : scope.names.lookup ("__class__" : Str) = some .free) (hka : scope.names.lookup ar.arg = some .local) (hk : scope.kind = .function)
    (h : ∀ h' tk t1, (∀ b o, b ≠ x → s.heap.get? b = some o → h'.get? b = some o) → h'.get? x = some (PySem.HandSPX.excO C t1) → Q .next { s with heap := h', toks := tk })
    (he : eval (.Call (.Attribute (.Call (.Name "super" p0) [] [] p1) "__init__" p2) [.Constant (.str msg) j p3] [] p4) (ksEnv q scope L f (.ref cda) cc) = (do
      let ov ← attributeBase (.Call (.Name "super" p0) [] [] p1) "__init__" (ksEnv q scope L f (.ref cda) cc) (eval (.Call (.Name "super" p0) [] [] p1) (ksEnv q scope L f (.ref cda) cc))
      standAt p2.atName
      let (g, first) ← holding [ov] (getMethod ov "__init__" pl)
      callWith p4 g first (backTo p4 (starEach [.Constant (.str msg) j p3] (ksEnv q scope L f (.ref cda) cc))) []))
    (hi : interactive (ksEnv q scope L f (.ref cda) cc) = false := by rfl) (hsw : swapsWith (.Call (.Attribute (.Call (.Name "super" p0) [] [] p1) "__init__" p2) [.Constant (.str msg) j p3] [] p4) none p5.line (ksEnv q scope L f (.ref cda) cc) = pure false := by rfl) :
    _root_.PySem.wpAt (model prog w) A (.func body (ksEnv q scope L f (.ref cda) cc)) (exec (.Expr (.Call (.Attribute (.Call (.Name "super" p0) [] [] p1) "__init__" p2) [.Constant (.str msg) j p3] [] p4) p5) (ksEnv q scope L f (.ref cda) cc)) Q E s := by
  obtain ⟨nm, qn, N, bs, bm, sn, sub, ab, col, dd, k0, k1, k2, k3, k5, hC, hbm⟩ := T.cls
  have hcl : clsIn K C = some { name := nm, bases := bs, mro := .ref C :: bm, ns := N, qualname := qn, hasDict := true, slotNames := sn, subclasses := sub, abstract := ab, collection := col, hasDel := false } := by unfold clsIn; rw [hC] <;> rfl
  have hCs := X _ _ hC
  obtain ⟨hh, g, d, t, os⟩ := s
  have I : PySem.W.InstAt hh x (PySem.HandSPX.excO C t0) C none := ⟨hx, rfl, rfl, trivial⟩
  have hxC : x ≠ C := fun e => by
    rw [e, hCs] at hx
    cases hx
  refine PySem.ks_wpAt_Expr_any (PySem.ks_wpAt_MethodCall ?_ he) hi hsw
  refine PySem.ks_wpAt_super_base (env := ksEnv q scope L f (.ref cda) cc) hks hkc rfl rfl (X _ _ hf) rfl hp rfl (X _ _ hcode) rfl hvs hfile T.top ?_
  refine PySem.W.ks_loadName_global hk hks (loadGlobal_builtin (env := ksEnv q scope L f (.ref cda) cc) G T.nosup B hb ⟨rfl, ?_⟩)
  refine wpAny_loadName_free hk hkc rfl ⟨_, X _ _ hcell, rfl⟩ ?_
  refine wpAny_loadName_local hk hka hL hself ?_
  refine PySem.ks_wpAny_isType_cls hCs rfl ⟨rfl, ?_⟩
  refine PySem.ks_wpAny_call_super hCs rfl I.at_ I.cls (fun c e => ?_) (looks_mroIn X T.me) (fun h' e k => ?_)
  · cases e
  · have X' : K.In h' := X.keeps k
    have I' : PySem.W.InstAt h' x (PySem.HandSPX.excO C t0) C none := ⟨k _ _ hx, rfl, rfl, trivial⟩
    have hal : alongIn K "__init__" (((Value.ref C :: bm).dropWhile (· != .ref C)).drop 1) = some (some (.builtin "ValueError.__init__")) := by
      have := T.sup
      unfold ks_superIn at this
      rw [hcl] at this
      exact this
    refine PySem.W.kxs_getMethod PySem.W.kxs_ValueError e (looks_opaque X' T.opq) (l₀ := Value.ref C :: bm) (fun A Q E s k q => wpAny_bind ((looks_clsIn X' hcl) A _ E s k (wpAny_pure q))) rfl X' hal (I'.type.andThen (looks_subIn X' T.isV)) hxC rfl ?_
    have hmw : (h'.push (kxs_mw "ValueError.__init__" x)).get? h'.objs.size = some (kxs_mw "ValueError.__init__" x) := Heap.get?_push_size _ rfl
    refine PySem.W.kxs_callWith (i := "ValueError.__init__") (x := x) rfl (evalArgs_plain (spliced_cons (Constant_str (k := j) (pos := p3) (spliced_nil ?_))))
    refine ⟨hmw, ?_⟩
    refine call_bwV (Heap.get?_push_of_some _ (X' _ _ hC)) (Heap.get?_push_of_some _ (k _ _ hx)) hmw (by rw [sizeLine_eq]; simp) fun h2 t1 k2 hx2 => ?_
    exact h h2 _ t1 (fun b o hb e => k2 b o hb (Heap.get?_push_of_some _ (k b o e))) hx2
end
end Z
set_option Elab.async false
set_option linter.all false
set_option maxRecDepth 100000
set_option maxHeartbeats 2000000
namespace Z
open PySem PySem.Spec PySem.Calls PyProof.Rows L2
open PySem.W (Frag nsIn clsIn mroIn subIn findIn typeIn keepIn codeIn hasDictIn Looks ksEnv ksFn ks_superObj ks_superIn kxs_mw KxsAt looks_clsIn looks_mroIn looks_subIn looks_opaque alongIn)
abbrev s_BadBook_init : Stmt := inClass (top 8) 0
abbrev s_OtherTies_init : Stmt := inClass (top 9) 0
/-- the text of an error class: its __init__ at fI is st -/
structure ErrTxt (K : Frag) (mg : Str → Option Value) (P : Program) (C fI : Addr) (qual : Str) (st : Stmt) : Prop extends SupTxt K mg P C where
  fn : ∃ (oc : Value) (od : Option Addr) (kV doc pm : Value) (an : Option Addr) (cda cc : Addr) (ct : Value) (osl : Array (Option Value)) (ccl : Value) (cdd : Option Addr) (vs : Array Value) (ccs : Array (Option Value)) (file : Str) (tf : Tok) (cl : Value) (cld : Option Addr) (csl : Array (Option Value)),
    K.lookup fI = some ⟨oc, od, .func (ksFn "__init__" qual (defArgs st) (defBody st) (defScope st) .none kV doc pm an (.ref cda) ct cc), osl⟩ ∧ codeIn K (.ref cda) qual = true ∧
    K.lookup cda = some ⟨ccl, cdd, .fields vs, ccs⟩ ∧ vs[2]? = some (.str file tf) ∧ ((P.main.file : Str) == file) = true ∧ K.lookup cc = some ⟨cl, cld, .cell (some (.ref C)), csl⟩
  iC : findIn K (.ref C) "__init__" = some (some (.ref fI))
  tI : typeIn K (.ref fI) = some (.type "function")
  kC : keepIn K (.ref C) = true
  exC : subIn K (.ref C) (.type "BaseException") = some true
  tyC : typeIn K (.ref C) = some (.type "type")
/-- what __init__ leaves of a fresh error at x: its dict holds m -/
structure IniEnd (h h' : Heap) (x C dx t1 : Addr) (m : Str → Option Value) : Prop where
  keep : ∀ b o, b ≠ x → h.get? b = some o → h'.get? b = some o
  obj : h'.get? x = some { cls := .ref C, dict := some dx, data := .fields #[.ref t1, .none, .none, .none, .bool false, .none] }
  dbig : h.objs.size ≤ dx
  dne : dx ≠ x
  ns : h'.Ns1 dx m
theorem ldC {M : Model} {s : Shared} {A : Around} {E : Value → Shared → Prop} {env : PySem.Env} {m : Str → Option Value} {x : Str} {pos : Pos} {v : Value} {Q : Value → Shared → Prop} (hn : s.heap.Ns env.locals m) (hv : m x = some v) (h : Q v s)
    (hk : env.scope.kind = .function := by rfl) (hl : env.kindOf x = some .local := by rfl) (hd : (x == ("__debug__" : Str)) = false := by decide) :
    wpAny M A (eval (.Name x pos) env) Q E s := wpAny_Name (wpAny_loadName_local hk hl hn hv h) hd
section
variable {prog : Program} {w : World} {A : Around} {E : Value → Shared → Prop} {R : Result → Shared → Prop} {s : Shared} {K : Frag} {mg mb : Str → Option Value} {C fI : Addr}
theorem bb_init (T : ErrTxt K mg prog C fI "BadBook.__init__" s_BadBook_init) (n1 : findIn K (.ref C) "index" = some none) (n2 : findIn K (.ref C) "what" = some none) {x t0 : Addr} {i v : Value} (X : K.In s.heap) (G : s.heap.Ns mainGlobals mg) (B : s.heap.Ns builtinsNs mb) (hb : mb "super" = some (.type "super")) (hlim : s.heap.NoLimit) (hx : s.heap.get? x = some (PySem.HandSPX.excO C t0)) (hnx : K.lookup x = none) (hroom : A.depth < recursionLimit)
    (hq : ∀ h' tk dx t1, IniEnd s.heap h' x C dx t1 (fun y => if y = "what" then some v else if y = "index" then some i else none) → R (.ok (.ret .none)) { s with heap := h', toks := tk }) :
    codeAny (model prog w) A (.call (.ref fI) ⟨[.ref x, i, v], []⟩) R s := by
  obtain ⟨oc, od, kV, doc, pm, an, cda, cc, ct, osl, ccl, cdd, vs, ccs, file, tf, cl, cld, csl, ho, hcd, hcda, hvs, hfile, hcc⟩ := T.fn
  obtain ⟨nm, q, N, bs, bm, sn, sub, ab, col, dd, k0, k1, k2, k3, k5, hC, hbm⟩ := T.cls
  have hcl : clsIn K C = some { name := nm, bases := bs, mro := .ref C :: bm, ns := N, qualname := q, hasDict := true, slotNames := sn, subclasses := sub, abstract := ab, collection := col, hasDel := false } := by unfold clsIn; rw [hC] <;> rfl
  have hc1 : ∀ y ∈ (defScope s_BadBook_init).names, y.2 ≠ .cell := by decide +kernel
  have hc2 : ∀ y ∈ [(("self" : Str), Value.ref x), ("index", i), ("what", v)], (defScope s_BadBook_init).names.lookup y.1 = some .local := fun y hy => by
    simp only [List.mem_cons, List.not_mem_nil, or_false] at hy
    rcases hy with rfl | rfl | rfl <;> rfl
  refine PySem.ks_codeAny_call_defAt (fd := ksFn "__init__" "BadBook.__init__" (defArgs s_BadBook_init) (defBody s_BadBook_init) (defScope s_BadBook_init) .none kV doc pm an (.ref cda) ct cc) (body := defBody s_BadBook_init) (binds := [("self", .ref x), ("index", i), ("what", v)]) hroom (X _ _ ho) rfl hlim (PySem.W.codeRec_of X hcd) rfl (BindsTo.of_eq (by first | rfl | with_unfolding_all rfl)) hc1 hc2 (fun h₁ hns hk₁ => ?_) rfl rfl rfl
  have hL : s.heap.objs.size ≠ x := Nat.ne_of_gt (Heap.lt_size hx)
  refine PySem.ks_wpAt_execs_cons (sup_step (q := "BadBook.__init__") (scope := defScope s_BadBook_init) (f := fI) (cc := cc) (cda := cda) (L := s.heap.objs.size) T.toSupTxt (X.keeps hk₁) (G.keeps hk₁) (B.keeps hk₁) hb hns rfl (hk₁ _ _ hx) ho rfl hcda hvs hfile hcc rfl rfl rfl rfl (fun h2 tk2 t1 k2 hx2 => ?_) rfl)
  have k2' : ∀ b o, b ≠ x → s.heap.get? b = some o → h2.get? b = some o := fun b o hb' e => k2 b o hb' (hk₁ b o e)
  have X2 : K.In h2 := fun a o e => k2' a o (fun z => by rw [z, hnx] at e; cases e) (X a o e)
  have hns2 : h2.Ns s.heap.objs.size (fun y => [(("self" : Str), Value.ref x), ("index", i), ("what", v)].reverse.lookup y) := by
    obtain ⟨o, es, ep, e, r⟩ := hns
    exact ⟨o, es, ep, k2 _ _ hL e, r⟩
  refine wpAt_of_wpAny ?_
  show wpAny _ _ (execs _ _) _ _ _
  refine wpAny_execs_cons (plainObj_wpAny_Assign_Attribute ?_)
  refine ldC (v := i) hns2 (by first | rfl | with_unfolding_all rfl | kernel_rfl) (ldC (v := .ref x) hns2 (by first | rfl | with_unfolding_all rfl | kernel_rfl) ?_)
  refine PySem.W.set_plain X2 (ox := PySem.HandSPX.excO C t1) (od := none) ⟨hx2, rfl, rfl, trivial⟩ T.sa ?_
  refine PySem.HandSPX.exc_osa X2 hx2 hcl (show PySem.HandSPX.refsVE (.ref C :: bm) = true from hbm) rfl n1 (fun h₃ tk₃ dx k₃ dn dne hx₃ hn₃ => ?_)
  have X3 : K.In h₃ := fun a o e => k₃ a o (fun z => by rw [z, hnx] at e; cases e) (X2 a o e)
  have hns3 : h₃.Ns s.heap.objs.size (fun y => [(("self" : Str), Value.ref x), ("index", i), ("what", v)].reverse.lookup y) := by
    obtain ⟨o, es, ep, e, r⟩ := hns2
    exact ⟨o, es, ep, k₃ _ _ hL e, r⟩
  show wpAny _ _ (execs _ _) _ _ _
  refine wpAny_execs_cons (plainObj_wpAny_Assign_Attribute ?_)
  refine ldC (v := v) hns3 (by first | rfl | with_unfolding_all rfl | kernel_rfl) (ldC (v := .ref x) hns3 (by first | rfl | with_unfolding_all rfl | kernel_rfl) ?_)
  have hw : Within (fun y : Str => if y = "index" then some i else none) ["index"] := fun y hy => by
    by_cases e : y = "index"
    · rw [e]; exact List.mem_cons_self
    · exact absurd (if_neg e) hy
  obtain ⟨oD, esD, epD, hoD, hdD, _⟩ := hn₃.count hw
  refine PySem.W.set_plain X3 (ox := { cls := .ref C, dict := some dx, data := .fields #[.ref t1, .none, .none, .none, .bool false, .none] }) (od := some oD) ⟨hx₃, rfl, rfl, hoD⟩ T.sa ?_
  refine PySem.OEX.osa_old X3 hx₃ hn₃ hw (by decide) hcl (show PySem.HandSPX.refsVE (.ref C :: bm) = true from hbm) rfl n2 (fun h₄ tk₄ k₄ hn₄ => ?_)
  show wpAny _ _ (execs _ _) _ _ _
  refine wpAny_execs_nil (hq h₄ tk₄ dx t1 ⟨fun b o hb' e => ?_, k₄ _ _ dne.symm hx₃, ?_, dne, hn₄⟩)
  · have e2 := k2' b o hb' e
    exact k₄ b o (fun z => Nat.lt_irrefl _ (Nat.lt_of_lt_of_le (Heap.lt_size e2) (by rw [z]; exact dn))) (k₃ b o hb' e2)
  · obtain ⟨oL, _, _, eL, _⟩ := hns2
    exact Nat.le_of_lt (Nat.lt_of_lt_of_le (Heap.lt_size eL) dn)
end
end Z
set_option Elab.async false
set_option linter.all false
set_option maxRecDepth 100000
set_option maxHeartbeats 2000000
namespace Z
open PySem PySem.Spec PySem.Calls PyProof.Rows L2
open PySem.W (Frag nsIn clsIn mroIn subIn findIn typeIn keepIn codeIn hasDictIn)
/-- a made error: its dict holds m -/
structure ErrMade (h h' : Heap) (e C d : Addr) (m : Str → Option Value) : Prop where
  keep : ∀ b o, h.get? b = some o → h'.get? b = some o
  new : h.objs.size ≤ e
  obj : ∃ oe vs, h'.get? e = some oe ∧ oe.cls = .ref C ∧ oe.dict = some d ∧ oe.data = .fields vs ∧ vs[1]? = some .none
  dbig : h.objs.size ≤ d
  dne : d ≠ e
  ns : h'.Ns1 d m
section
variable {prog : Program} {w : World} {A : Around} {E : Value → Shared → Prop} {R : Result → Shared → Prop} {s : Shared} {K : Frag} {mg mb : Str → Option Value} {C fI : Addr}
theorem bb_made (T : ErrTxt K mg prog C fI "BadBook.__init__" s_BadBook_init) (n1 : findIn K (.ref C) "index" = some none) (n2 : findIn K (.ref C) "what" = some none) {i v : Value} (X : K.In s.heap) (G : s.heap.Ns mainGlobals mg) (B : s.heap.Ns builtinsNs mb) (hb : mb "super" = some (.type "super")) (hlim : s.heap.NoLimit) (hroom : A.depth + 1 < recursionLimit)
    (hq : ∀ h' tk e d, ErrMade s.heap h' e C d (fun y => if y = "what" then some v else if y = "index" then some i else none) → R (.ok (.ret (.ref e))) { s with heap := h', toks := tk }) :
    codeAny (model prog w) A (.call (.ref C) ⟨[i, v], []⟩) R s := by
  obtain ⟨nm, q, N, bs, bm, sn, sub, ab, col, dd, k0, k1, k2, k3, k5, hC, hbm⟩ := T.cls
  obtain ⟨hp, g, dr, tk, os⟩ := s
  have k : ∀ b o, hp.get? b = some o → ((hp.push (PySem.W.kdv_tup [i, v])).push (PySem.HandSPX.excO C hp.objs.size)).get? b = some o := fun b o e => Heap.get?_push_of_some _ (Heap.get?_push_of_some _ e)
  have hget : ((hp.push (PySem.W.kdv_tup [i, v])).push (PySem.HandSPX.excO C hp.objs.size)).get? (hp.objs.size + 1) = some (PySem.HandSPX.excO C hp.objs.size) := by heap_get
  have hnx : K.lookup (hp.objs.size + 1) = none := by
    cases e : K.lookup (hp.objs.size + 1) with
    | none => rfl
    | some o =>
      have z : hp.get? (hp.objs.size + 1) = some o := X _ _ e
      exact absurd (Nat.lt_of_succ_lt (Heap.lt_size z)) (Nat.lt_irrefl _)
  refine PySem.HandSPX.call_own F.excBase_ValueError (fun X => PySem.HandSPX.refsVE_contains X bm hbm) (X _ _ hC) (PySem.W.looks_findIn X T.iC) (fun self => PySem.W.bind_fn X self T.tI) (by rw [sizeLine_eq]; simp) ?_
  refine bb_init (s := ⟨(hp.push (PySem.W.kdv_tup [i, v])).push (PySem.HandSPX.excO C hp.objs.size), g, dr, tk, os⟩) T n1 n2 (X.keeps k) (G.keeps k) (B.keeps k) hb (hlim.keeps k) hget hnx ?_ fun h' tk' dx t1 M => ?_
  · show A.depth + 1 < recursionLimit
    exact hroom
  · have old : ∀ b o, hp.get? b = some o → h'.get? b = some o := fun b o e => M.keep b o (Nat.ne_of_lt (Nat.lt_succ_of_lt (Heap.lt_size e))) (k b o e)
    have z : hp.objs.size + 1 + 1 ≤ dx := by
      have q := M.dbig
      first
        | (simpa only [Heap.size_push] using q)
        | (rw [Heap.size_push, Heap.size_push] at q; exact q)
    exact ⟨rfl, hq h' tk' (hp.objs.size + 1) dx ⟨old, Nat.le_succ _, ⟨_, _, M.obj, rfl, rfl, rfl, rfl⟩, Nat.le_trans (Nat.le_trans (Nat.le_succ _) (Nat.le_succ _)) z, M.dne, M.ns⟩⟩
end
theorem relO_bb {a b : V} {i v : Value} (r1 : RelV a i) (r2 : RelV b v) (f : Str) : RelO (List.lookup f [(("what" : Str), b), ("index", a)]) (if f = "what" then some v else if f = "index" then some i else none) := by
  rw [lookup_put, lookup_put]
  by_cases h1 : f = "what"
  · rw [if_pos h1, if_pos h1]; exact r2
  · rw [if_neg h1, if_neg h1]
    by_cases h2 : f = "index"
    · rw [if_pos h2, if_pos h2]; exact r1
    · rw [if_neg h2, if_neg h2]; trivial
section
variable {X : Cx} {C fI : Addr}
/-- BadBook(i, w) -/
def tMkBB (C : Addr) (ta : TA) : L2.St → Hp → XK → Prop := fun σ H Q => ta σ H fun vs H1 => ∃ a b, vs = [a, b] ∧ ∀ d, H1 d = none → Q (.ref C) (some d) (upd H1 d (.xd [(("what" : Str), b), ("index", a)]))
theorem pmk_bb {a b : Expr} {ta : TA} {p pos : Pos} {k : Nat} (T : ErrTxt X.K X.mg X.prog C fI "BadBook.__init__" s_BadBook_init) (n1 : findIn X.K (.ref C) "index" = some none) (n2 : findIn X.K (.ref C) "what" = some none) (gC : X.mg "BadBook" = some (.ref C)) (hr : Room k X.A) (ha : PA X [a, b] ta) (hg : Gl X "BadBook" := by rfl)
    (he : starEach (a :: [b]) X.env = (false, eval a X.env) :: starEach [b] X.env := by rfl) (hpl : (backTo pos (starEach [b] X.env)).any (·.1) = false := by rfl) :
    PMk X (.Call (.Name "BadBook" p) [a, b] [] pos) (tMkBB C ta) := by
  intro pins s σ H Q I h
  refine wpAny_Call_Name_kw (ld_glob I hg gC ?_)
  refine PySem.W.callWith_K (h₀ := X.base) I.ok.mod.kin T.kC (thn (ha.run pos pins s σ H _ I h) fun us s1 hh => ?_) he hpl
  obtain ⟨vs, H1, I1, r1, va, vb, ev, q1⟩ := hh
  subst ev
  refine ⟨I1.kIn, ?_⟩
  cases r1 with
  | cons ra rn =>
    rename_i a' us'
    cases rn with
    | cons rb rn2 =>
      rename_i b' us2
      cases rn2
      show wpAny _ _ (call (.ref C) [a', b']) _ _ _
      have hlim := I1.nolimit
      obtain ⟨mb, m1, m2⟩ := I1.mod.blt
      have hG := I1.mod.glob.keeps I1.bk
      have hB := m1.keeps I1.bk
      obtain ⟨hp, g, d, tk, os⟩ := s1
      refine wpAny_call (bb_made T n1 n2 I1.kIn hG hB ((m2 "super" (by decide)).trans (by rfl)) hlim (by have := hr.dp; omega) fun h' tk' e d M => ?_)
      show MkP X pins σ Q (.ref e) ⟨h', g, _, tk', os⟩
      obtain ⟨oe, fv, hoe, hc, hd, hdat, h1⟩ := M.obj
      have hns := M.ns
      obtain ⟨G', g1, g2⟩ := restrict h' fun b => decide (b ≠ e)
      have gk : ∀ b, b ≠ e → G'.get? b = h'.get? b := fun b hb => g1 b (decide_eq_true hb)
      have ge : G'.get? e = none := g2 e (by simp)
      have old : ∀ b o, hp.get? b = some o → G'.get? b = some o := fun b o q => (gk b (Nat.ne_of_lt (Nat.lt_of_lt_of_le (Heap.lt_size q) M.new))).trans (M.keep b o q)
      have ob : ObjOk X.prog X.w (upd H1 d (.xd [(("what" : Str), vb), ("index", va)])) G' d (.xd [(("what" : Str), vb), ("index", va)]) :=
        ⟨_, hns.at (fun o q => (gk d M.dne).trans q), fun f => relO_bb ra rb f⟩
      have J : Inv X pins σ (upd H1 d (.xd [(("what" : Str), vb), ("index", va)])) ⟨G', g, _, tk', os⟩ := I1.laid (t' := tk') old M.dbig ob
      refine ⟨e, oe, fv, ⟨G', g, _, tk', os⟩, _, .ref C, some d, rfl, J, fun b o q => ?_, ge, hoe, ⟨hc, hd⟩, hdat, h1, ?_, rfl, I1.bare, raises_own T.exC T.tyC, q1 d (I1.hok.fresh M.dbig)⟩
      · by_cases hb : b = e
        · have q' : G'.get? b = some o := q
          rw [hb, ge] at q'; cases q'
        · exact (gk b hb).symm.trans q
      · rw [upd_ne (Ne.symm M.dne)]
        exact I1.hok.fresh M.new
end
end Z
set_option Elab.async false
set_option linter.all false
set_option maxRecDepth 100000
set_option maxHeartbeats 2000000
namespace Z
open PySem PySem.Spec PySem.Calls PyProof.Rows L2
open PySem.W (Frag nsIn clsIn mroIn subIn findIn typeIn keepIn codeIn hasDictIn ksFn)
section
variable {prog : Program} {w : World} {A : Around} {E : Value → Shared → Prop} {R : Result → Shared → Prop} {s : Shared} {K : Frag} {mg mb : Str → Option Value} {C fI : Addr}
theorem ot_init (T : ErrTxt K mg prog C fI "OtherTies.__init__" s_OtherTies_init) {x t0 : Addr} (X : K.In s.heap) (G : s.heap.Ns mainGlobals mg) (B : s.heap.Ns builtinsNs mb) (hb : mb "super" = some (.type "super")) (hlim : s.heap.NoLimit) (hx : s.heap.get? x = some (PySem.HandSPX.excO C t0)) (hroom : A.depth < recursionLimit)
    (hq : ∀ h' tk t1, (∀ b o, b ≠ x → s.heap.get? b = some o → h'.get? b = some o) → h'.get? x = some (PySem.HandSPX.excO C t1) → R (.ok (.ret .none)) { s with heap := h', toks := tk }) :
    codeAny (model prog w) A (.call (.ref fI) ⟨[.ref x], []⟩) R s := by
  obtain ⟨oc, od, kV, doc, pm, an, cda, cc, ct, osl, ccl, cdd, vs, ccs, file, tf, cl, cld, csl, ho, hcd, hcda, hvs, hfile, hcc⟩ := T.fn
  have hc1 : ∀ y ∈ (defScope s_OtherTies_init).names, y.2 ≠ .cell := by decide +kernel
  have hc2 : ∀ y ∈ [(("self" : Str), Value.ref x)], (defScope s_OtherTies_init).names.lookup y.1 = some .local := fun y hy => by
    rw [List.mem_singleton.mp hy]
    rfl
  refine PySem.ks_codeAny_call_defAt (fd := ksFn "__init__" "OtherTies.__init__" (defArgs s_OtherTies_init) (defBody s_OtherTies_init) (defScope s_OtherTies_init) .none kV doc pm an (.ref cda) ct cc) (body := defBody s_OtherTies_init) (binds := [("self", .ref x)]) hroom (X _ _ ho) rfl hlim (PySem.W.codeRec_of X hcd) rfl (BindsTo.of_eq (by first | rfl | with_unfolding_all rfl)) hc1 hc2 (fun h₁ hns hk₁ => ?_) rfl rfl rfl
  refine PySem.ks_wpAt_execs_cons (sup_step (q := "OtherTies.__init__") (scope := defScope s_OtherTies_init) (f := fI) (cc := cc) (cda := cda) (L := s.heap.objs.size) T.toSupTxt (X.keeps hk₁) (G.keeps hk₁) (B.keeps hk₁) hb hns rfl (hk₁ _ _ hx) ho rfl hcda hvs hfile hcc rfl rfl rfl rfl (fun h2 tk2 t1 k2 hx2 => ?_) rfl)
  refine wpAt_of_wpAny ?_
  show wpAny _ _ (execs _ _) _ _ _
  exact wpAny_execs_nil (hq h2 tk2 t1 (fun b o hb' e => k2 b o hb' (hk₁ b o e)) hx2)
theorem ot_made (T : ErrTxt K mg prog C fI "OtherTies.__init__" s_OtherTies_init) (X : K.In s.heap) (G : s.heap.Ns mainGlobals mg) (B : s.heap.Ns builtinsNs mb) (hb : mb "super" = some (.type "super")) (hlim : s.heap.NoLimit) (hroom : A.depth + 1 < recursionLimit)
    (hq : ∀ h' tk e t1, (∀ b o, s.heap.get? b = some o → h'.get? b = some o) → s.heap.objs.size ≤ e → h'.get? e = some (PySem.HandSPX.excO C t1) → R (.ok (.ret (.ref e))) { s with heap := h', toks := tk }) :
    codeAny (model prog w) A (.call (.ref C) ⟨[], []⟩) R s := by
  obtain ⟨nm, q, N, bs, bm, sn, sub, ab, col, dd, k0, k1, k2, k3, k5, hC, hbm⟩ := T.cls
  obtain ⟨hp, g, dr, tk, os⟩ := s
  have k : ∀ b o, hp.get? b = some o → ((hp.push (PySem.W.kdv_tup [])).push (PySem.HandSPX.excO C hp.objs.size)).get? b = some o := fun b o e => Heap.get?_push_of_some _ (Heap.get?_push_of_some _ e)
  have hget : ((hp.push (PySem.W.kdv_tup [])).push (PySem.HandSPX.excO C hp.objs.size)).get? (hp.objs.size + 1) = some (PySem.HandSPX.excO C hp.objs.size) := by heap_get
  refine PySem.HandSPX.call_own F.excBase_ValueError (fun X => PySem.HandSPX.refsVE_contains X bm hbm) (X _ _ hC) (PySem.W.looks_findIn X T.iC) (fun self => PySem.W.bind_fn X self T.tI) (by rw [sizeLine_eq]; simp) ?_
  refine ot_init (s := ⟨(hp.push (PySem.W.kdv_tup [])).push (PySem.HandSPX.excO C hp.objs.size), g, dr, tk, os⟩) T (X.keeps k) (G.keeps k) (B.keeps k) hb (hlim.keeps k) hget ?_ fun h' tk' t1 k' hx' => ?_
  · show A.depth + 1 < recursionLimit
    exact hroom
  · exact ⟨rfl, hq h' tk' (hp.objs.size + 1) t1 (fun b o e => k' b o (Nat.ne_of_lt (Nat.lt_succ_of_lt (Heap.lt_size e))) (k b o e)) (Nat.le_succ _) hx'⟩
end
section
variable {X : Cx} {C fI : Addr}
theorem pmk_ot {p pos : Pos} {k : Nat} (T : ErrTxt X.K X.mg X.prog C fI "OtherTies.__init__" s_OtherTies_init) (gC : X.mg "OtherTies" = some (.ref C)) (hr : Room k X.A) (hg : Gl X "OtherTies" := by rfl) :
    PMk X (.Call (.Name "OtherTies" p) [] [] pos) (fun _ H Q => Q (.ref C) none H) := by
  intro pins s σ H Q I h
  refine wpAny_Call_Name_kw (ld_glob I hg gC ?_)
  refine PySem.W.callWith_K0 I.kIn T.kC ?_
  show wpAny _ _ (call (.ref C) []) _ _ _
  have hlim := I.nolimit
  obtain ⟨mb, m1, m2⟩ := I.mod.blt
  have hG := I.mod.glob.keeps I.bk
  have hB := m1.keeps I.bk
  obtain ⟨hp, g, d, tk, os⟩ := s
  refine wpAny_call (ot_made T I.kIn hG hB ((m2 "super" (by decide)).trans (by rfl)) hlim (by have := hr.dp; omega) fun h' tk' e t1 kp new hoe => ?_)
  show MkP X pins σ Q (.ref e) ⟨h', g, _, tk', os⟩
  obtain ⟨G', g1, g2⟩ := restrict h' fun b => decide (b ≠ e)
  have gk : ∀ b, b ≠ e → G'.get? b = h'.get? b := fun b hb => g1 b (decide_eq_true hb)
  have ge : G'.get? e = none := g2 e (by simp)
  have old : ∀ b o, hp.get? b = some o → G'.get? b = some o := fun b o q => (gk b (Nat.ne_of_lt (Nat.lt_of_lt_of_le (Heap.lt_size q) new))).trans (kp b o q)
  have J : Inv X pins σ H ⟨G', g, _, tk', os⟩ := I.kept (t' := tk') old
  refine ⟨e, _, _, ⟨G', g, _, tk', os⟩, _, .ref C, none, rfl, J, fun b o q => ?_, ge, hoe, ⟨rfl, rfl⟩, rfl, rfl, I.hok.fresh new, rfl, I.bare, raises_own T.exC T.tyC, h⟩
  by_cases hb : b = e
  · have q' : G'.get? b = some o := q
    rw [hb, ge] at q'; cases q'
  · exact (gk b hb).symm.trans q
end
end Z
set_option Elab.async false
set_option linter.all false
set_option maxRecDepth 100000
set_option maxHeartbeats 2000000
namespace Z
open PySem PySem.Spec PyProof.Rows L2
/-- the head's facts with those of the error classes -/
structure Ty (K : PySem.W.Frag) (mg : Str → Option Value) (P : Program) : Prop extends Tx K mg where
  bb : ∃ fI, ErrTxt K mg P (He.ga K "BadBook") fI "BadBook.__init__" s_BadBook_init
  bb1 : PySem.W.findIn K (.ref (He.ga K "BadBook")) "index" = some none
  bb2 : PySem.W.findIn K (.ref (He.ga K "BadBook")) "what" = some none
  ot : ∃ fI, ErrTxt K mg P (He.ga K "OtherTies") fI "OtherTies.__init__" s_OtherTies_init
/-- raise BadBook(i, w) -/
def tRaiseBB (K : PySem.W.Frag) (E : XK) (ta : TA) : TS := fun _ σ H => tMkBB (He.ga K "BadBook") ta σ H fun cls d H' => E cls d H'
/-- raise OtherTies() -/
def tRaiseOT (K : PySem.W.Frag) (E : XK) : TS := fun _ σ H => E (.ref (He.ga K "OtherTies")) none H
section
variable {X : Cx}
theorem ps_raiseBB {a b : Expr} {ta : TA} {E : XK} {p pos pos2 : Pos} {k : Nat} (T : Ty X.K X.mg X.prog) (hr : Room k X.A) (tk : Takes X (fun cls d _ H => E cls d H)) (ha : PA X [a, b] ta) (hc : X.calm = true := by rfl) (hg : Gl X "BadBook" := by rfl)
    (he : starEach (a :: [b]) X.env = (false, eval a X.env) :: starEach [b] X.env := by rfl) (hpl : (backTo pos (starEach [b] X.env)).any (·.1) = false := by rfl) :
    PS X (.Raise (some (.Call (.Name "BadBook" p) [a, b] [] pos)) none pos2) (tRaiseBB X.K E ta) := by
  obtain ⟨fI, B⟩ := T.bb
  exact ps_raise hc tk (pmk_bb B T.bb1 T.bb2 T.g_BadBook hr ha hg he hpl)
theorem ps_raiseOT {E : XK} {p pos pos2 : Pos} {k : Nat} (T : Ty X.K X.mg X.prog) (hr : Room k X.A) (tk : Takes X (fun cls d _ H => E cls d H)) (hc : X.calm = true := by rfl) (hg : Gl X "OtherTies" := by rfl) :
    PS X (.Raise (some (.Call (.Name "OtherTies" p) [] [] pos)) none pos2) (tRaiseOT X.K E) := by
  obtain ⟨fI, B⟩ := T.ot
  exact ps_raise hc tk (pmk_ot B T.g_OtherTies hr hg)
end
end Z
set_option Elab.async false
set_option linter.all false
set_option maxRecDepth 100000
set_option maxHeartbeats 4000000
namespace Z
open PySem PySem.Spec PyProof.Rows L2
open StX (tStar pa_star)
theorem sc_names_of : FnScope ["ties", "pairs", "names", "place", "pair"] ["ties", "pairs"] (defScope s_names_of) := ⟨rfl, rfl, rfl, by decide +kernel, rfl, by decide +kernel, by decide +kernel⟩
def t_names_of (K : PySem.W.Frag) (E : XK) (sp_is_couple : Sp) : TS :=
    (tSeq (tIfS (tNot (tB (tCB (rIsiT K) (tCons (tVar 1) (tCons (tTup (tCons (tC (.ty "list")) (tCons (tC (.ty "tuple")) tNil))) tNil)))))
    (tRaiseBB K E (tCons (tC (.int 0)) (tCons (tC (.str "pairs")) tNil)))
    tNext)
    (tSeq (tAsg tDNewK (gName 2))
    (tSeq (tFor (iEnumS K (tVar 1)) (gTup K 2 (gCons (gName 3) (gCons (gName 4) gNil)))
    (tSeq (tIfS (tNot (tB (tCall sp_is_couple [] E0 (tCons (tVar 0) (tCons (tVar 4) tNil)))))
    (tRaiseBB K E (tCons (tVar 3) (tCons (tC (.str "pair")) tNil)))
    tNext)
    (tSeq (tIfS (tOr (tB (tDIn (tOp (rIxLT K) (tVar 4) (tC (.int 0))) (tVar 2))) (tTest (tOp (rInD K) (tOp (rIxLT K) (tVar 4) (tC (.int 1))) (tListVals K (tVar 2)))))
    (tRaiseBB K E (tCons (tVar 3) (tCons (tC (.str "double")) tNil)))
    tNext)
    (sDPut (tVar 2) (tOp (rIxLT K) (tVar 4) (tC (.int 0))) (tOp (rIxLT K) (tVar 4) (tC (.int 1)))))))
    (tSeq (tIfS (tTest (tOp rLt (tCB rLenD (tCons (tVar 2) tNil)) (tFld K (tVar 0) "many")))
    (tRaiseBB K E (tCons (tCB (rLen K) (tCons (tVar 1) tNil)) (tCons (tC (.str "lacking")) tNil)))
    tNext)
    (tSeq (tFor (iEnumS K (tVar 1)) (gTup K 2 (gCons (gName 3) (gCons (gName 4) gNil)))
    (tIfS (tTest (tOp (rNeD K) (tOp (rIxLT K) (tFld K (tVar 0) "backs") (tOp (rIxLT K) (tVar 4) (tC (.int 1)))) (tDGet (tVar 2) (tOp (rIxLT K) (tFld K (tVar 0) "backs") (tOp (rIxLT K) (tVar 4) (tC (.int 0)))))))
    (tRaiseBB K E (tCons (tVar 3) (tCons (tC (.str "back")) tNil)))
    tNext))
    (tRet (tVar 2)))))))
theorem ok_names_of {P : Program} {w : World} {K : PySem.W.Frag} {mg : Str → Option Value} {base : Heap} (T : Ty K mg P) {sp_is_couple : Sp} (C_is_couple : Cal P w K mg base CX0 4 "_is_couple" ["ties", "thing"] sp_is_couple) {sp : Sp} (hl : ∀ vs H Q E, sp vs H Q E → vs.length = 2)
    (tr : ∀ vs H Q E, sp vs H Q E → t_names_of K E sp_is_couple { nx := fun _ H' => Q .non H', rt := Q } (L2.start ["ties", "pairs", "names", "place", "pair"] vs) H) :
    Cal P w K mg base (L2.CX P w) 5 "_names_of" ["ties", "pairs"] sp := by
  obtain ⟨fd, F⟩ := T.F_names_of
  have b : Binds K fd ["ties", "pairs"] [] := F.bindsN fun _ _ _ _ _ _ us hl => match us, hl with | [_, _], _ => rfl
  refine ⟨⟨fd, ?_, b⟩, F.kp, T.g_names_of⟩
  refine FunD.ok F sc_names_of hl fun cdv A outer s H vs Q E hr h => ⟨_, ?_, tr vs H Q E h⟩
  have hr_is_couple : Room 4 _ := hr.mono (by decide)
  have hu64 := hr.units
  have hu65 := hu65_of hr
  have hr_mk : Room 2 _ := hr.mono (by decide)
  unfold t_names_of
  exact (pss_cons (ps_if (pt_not (pt_val (pe_callB call_isiT (by rfl) T.f_isinstance PyProof.Rows.boot_isinstance (pa_cons (pv 1) (pa_cons (pe_tup (pa_cons (pe_bltn (v := .ty "list") (u := .type "list") (by rfl) T.f_list (by decide +kernel) (by rfl)) (pa_cons (pe_bltn (v := .ty "tuple") (u := .type "tuple") (by rfl) T.f_tuple (by decide +kernel) (by rfl)) pa_nil))) pa_nil))))) (pss_one (ps_raiseBB T hr_mk (takes_of rfl rfl rfl rfl) (pa_cons pe_int (pa_cons pe_str pa_nil)))) pss_nil)
    (pss_cons (ps_set (i := 2) sc_names_of.nd rfl (by first | exact Or.inl rfl | exact Or.inr rfl) pe_dnewK)
    (pss_cons (ps_for (passes_of rfl) rfl (pi_enumS (by rfl) T.f_enumerate (pv 1)) (pg_tup rfl (pgs_cons (pg_name (i := 3) sc_names_of.nd rfl (by first | exact Or.inl rfl | exact Or.inr rfl)) (pgs_cons (pg_name (i := 4) sc_names_of.nd rfl (by first | exact Or.inl rfl | exact Or.inr rfl)) pgs_nil))) (pss_cons (ps_if (pt_not (pt_val (pe_cal C_is_couple hr_is_couple (by rfl) pass0 (pa_cons (pv 0) (pa_cons (pv 4) pa_nil))))) (pss_one (ps_raiseBB T hr_mk (takes_of rfl rfl rfl rfl) (pa_cons (pv 3) (pa_cons pe_str pa_nil)))) pss_nil)
    (pss_cons (ps_if (PW.pt (pw_or (pt_cmp (pc_din (hu_of hr) (pe_ix ix_LT (pv 4) pe_int (fun _ _ => rfl)) (pv 2))) (pw_or1 (pt_cmpR (op_inD hu65) (pe_ix ix_LT (pv 4) pe_int (fun _ _ => rfl)) (pe_callTy (call_list_view rfl) (by rfl) T.f_list (by decide +kernel) (pa_cons (pe_bm0 PySem.F.plainAttrs_dict PySem.F.slot_dict_values PySem.F.type_dict_values mt_values (pv 2)) pa_nil)) (by rfl))))) (pss_one (ps_raiseBB T hr_mk (takes_of rfl rfl rfl rfl) (pa_cons (pv 3) (pa_cons pe_str pa_nil)))) pss_nil)
    (pss_one (ps_dput (hu_of hr) (pv 2) (pe_ix ix_LT (pv 4) pe_int (fun _ _ => rfl)) (pe_ix ix_LT (pv 4) pe_int (fun _ _ => rfl)) rfl)))))
    (pss_cons (ps_if (pt_cmpR op_lt (pe_callB call_lenD (by rfl) T.f_len PySem.boot_len (pa_cons (pv 2) pa_nil)) (pe_fld (pv 0) rfl) (nomark _)) (pss_one (ps_raiseBB T hr_mk (takes_of rfl rfl rfl rfl) (pa_cons (pe_callB call_len (by rfl) T.f_len PySem.boot_len (pa_cons (pv 1) pa_nil)) (pa_cons pe_str pa_nil)))) pss_nil)
    (pss_cons (ps_for (passes_of rfl) rfl (pi_enumS (by rfl) T.f_enumerate (pv 1)) (pg_tup rfl (pgs_cons (pg_name (i := 3) sc_names_of.nd rfl (by first | exact Or.inl rfl | exact Or.inr rfl)) (pgs_cons (pg_name (i := 4) sc_names_of.nd rfl (by first | exact Or.inl rfl | exact Or.inr rfl)) pgs_nil))) (pss_one (ps_if (pt_cmpR (op_neD hu64) (pe_ix ix_LT (pe_fld (pv 0) rfl) (pe_ix ix_LT (pv 4) pe_int (fun _ _ => rfl)) (fun _ _ => rfl)) (pe_dget (hu_of hr) (pv 2) (pe_ix ix_LT (pe_fld (pv 0) rfl) (pe_ix ix_LT (pv 4) pe_int (fun _ _ => rfl)) (fun _ _ => rfl)) (fun _ _ => rfl)) (nomark _)) (pss_one (ps_raiseBB T hr_mk (takes_of rfl rfl rfl rfl) (pa_cons (pv 3) (pa_cons pe_str pa_nil)))) pss_nil)))
    (pss_one (ps_ret (pv 2))))))))
theorem sc_check_alike : FnScope ["one", "other"] ["one", "other"] (defScope s_check_alike) := ⟨rfl, rfl, rfl, by decide +kernel, rfl, by decide +kernel, by decide +kernel⟩
def t_check_alike (K : PySem.W.Frag) (E : XK) : TS :=
    (tIfS (tTest (tOp (rNeD K) (tFld K (tFld K (tVar 0) "ties") "backs") (tFld K (tFld K (tVar 1) "ties") "backs")))
    (tRaiseOT K E)
    tNext)
theorem ok_check_alike {P : Program} {w : World} {K : PySem.W.Frag} {mg : Str → Option Value} {base : Heap} (T : Ty K mg P) {sp : Sp} (hl : ∀ vs H Q E, sp vs H Q E → vs.length = 2)
    (tr : ∀ vs H Q E, sp vs H Q E → t_check_alike K E { nx := fun _ H' => Q .non H', rt := Q } (L2.start ["one", "other"] vs) H) :
    Cal P w K mg base (L2.CX P w) 3 "_check_alike" ["one", "other"] sp := by
  obtain ⟨fd, F⟩ := T.F_check_alike
  have b : Binds K fd ["one", "other"] [] := F.bindsN fun _ _ _ _ _ _ us hl => match us, hl with | [_, _], _ => rfl
  refine ⟨⟨fd, ?_, b⟩, F.kp, T.g_check_alike⟩
  refine FunD.ok F sc_check_alike hl fun cdv A outer s H vs Q E hr h => ⟨_, ?_, tr vs H Q E h⟩
  have hu64 := hr.units
  have hr_mk : Room 2 _ := hr.mono (by decide)
  unfold t_check_alike
  exact (pss_one (ps_if (pt_cmpR (op_neD hu64) (pe_fld (pe_fld (pv 0) rfl) rfl) (pe_fld (pe_fld (pv 1) rfl) rfl) (nomark _)) (pss_one (ps_raiseOT T hr_mk (takes_of rfl rfl rfl rfl))) pss_nil))
theorem sc_Book_renamed_ties : FnScope ["self", "pairs", "names", "p", "q", "r"] ["self", "pairs"] (defScope s_Book_renamed_ties) := ⟨rfl, rfl, rfl, by decide +kernel, rfl, by decide +kernel, by decide +kernel⟩
def t_Book_renamed_ties (K : PySem.W.Frag) (E : XK) (sp_names_of sp_Book_init : Sp) : TS :=
    (tSeq (tAsg (tCall sp_names_of [] E (tCons (tFld K (tVar 0) "ties") (tCons (tVar 1) tNil))) (gName 2))
    (tRet (tMake (He.ga K "Book") sp_Book_init [] E0 (tCons (tFld K (tVar 0) "ties") (tCons (tLc (iSeq K (tFld K (tVar 0) "barred")) (gTup K 3 (gCons (gName 3) (gCons (gName 4) (gCons (gName 5) gNil)))) tYes (tTup (tCons (tDGet (tVar 2) (tVar 3)) (tCons (tDGet (tVar 2) (tVar 4)) (tCons (tDGet (tVar 2) (tVar 5)) tNil)))) [3, 4, 5]) tNil)))))
theorem ok_Book_renamed_ties {P : Program} {w : World} {K : PySem.W.Frag} {mg : Str → Option Value} {base : Heap} (T : Ty K mg P) {sp_names_of sp_Book_init : Sp} (C_names_of : Cal P w K mg base (L2.CX P w) 5 "_names_of" ["ties", "pairs"] sp_names_of) (C_Book_init : CalC P w K mg base CX0 6 "Book" ["self", "ties", "barred"] sp_Book_init) {sp : Sp} (hl : ∀ vs H Q E, sp vs H Q E → vs.length = 2)
    (tr : ∀ vs H Q E, sp vs H Q E → t_Book_renamed_ties K E sp_names_of sp_Book_init { nx := fun _ H' => Q .non H', rt := Q } (L2.start ["self", "pairs", "names", "p", "q", "r"] vs) H) :
    CalM P w K mg base (L2.CX P w) 9 "Book" "renamed_ties" ["self", "pairs"] sp := by
  obtain ⟨fd, F⟩ := T.F_Book_renamed_ties
  have b : Binds K fd ["self", "pairs"] [] := F.bindsN fun _ _ _ _ _ _ us hl => match us, hl with | [_, _], _ => rfl
  refine ⟨⟨fd, ?_, b⟩, T.h_Book_renamed_ties⟩
  refine FunD.ok F sc_Book_renamed_ties hl fun cdv A outer s H vs Q E hr h => ⟨_, ?_, tr vs H Q E h⟩
  have hr_names_of : Room 5 _ := hr.mono (by decide)
  have hr_Book_init : Room 7 _ := hr.mono (by decide)
  have hu64 := hr.units
  unfold t_Book_renamed_ties
  exact (pss_cons (ps_set (i := 2) sc_Book_renamed_ties.nd rfl (by first | exact Or.inl rfl | exact Or.inr rfl) (pe_cal C_names_of hr_names_of (by rfl) (passes_call (takes_of rfl rfl rfl rfl) (fun _ _ _ _ h => h)) (pa_cons (pe_fld (pv 0) rfl) (pa_cons (pv 1) pa_nil))))
    (pss_one (ps_ret (pe_calC C_Book_init hr_Book_init (by rfl) pass0 (pa_cons (pe_fld (pv 0) rfl) (pa_cons (pe_lc (own := [("p", 3), ("q", 4), ("r", 5)]) (g := (gTup K 3 (gCons (gName 3) (gCons (gName 4) (gCons (gName 5) gNil))))) (tt := tYes) rfl sc_Book_renamed_ties.nd (pi_seq (pe_fld (pv 0) rfl)) (blkOk_by (by kernel_rfl)) (fun _ _ _ _ _ => (pg_tup rfl (pgs_cons (pg_name (i := 3) sc_Book_renamed_ties.nd rfl (by first | exact Or.inl rfl | exact Or.inr rfl)) (pgs_cons (pg_name (i := 4) sc_Book_renamed_ties.nd rfl (by first | exact Or.inl rfl | exact Or.inr rfl)) (pgs_cons (pg_name (i := 5) sc_Book_renamed_ties.nd rfl (by first | exact Or.inl rfl | exact Or.inr rfl)) pgs_nil))))) (fun _ _ _ _ _ => pts_nil) (fun _ _ _ _ _ => (pe_tup (pa_cons (pe_dget (hu_of hr) (pv 2) (pv 3) (fun _ _ => rfl)) (pa_cons (pe_dget (hu_of hr) (pv 2) (pv 4) (fun _ _ => rfl)) (pa_cons (pe_dget (hu_of hr) (pv 2) (pv 5) (fun _ _ => rfl)) pa_nil)))))) pa_nil))))))
theorem sc_same_up_to_names : FnScope ["one", "other", "names", "pairs", "place", "name"] ["one", "other"] (defScope s_same_up_to_names) := ⟨rfl, rfl, rfl, by decide +kernel, rfl, by decide +kernel, by decide +kernel⟩
def t_same_up_to_names (K : PySem.W.Frag) (E : XK) (sp_check_alike sp_all_names sp_Book_eq sp_Book_renamed_ties : Sp) : TS :=
    (tSeq (tDrop (tCall sp_check_alike [] E (tCons (tVar 0) (tCons (tVar 1) tNil))))
    (tSeq (tFor (iSeq K (tCall sp_all_names [] E0 (tCons (tFld K (tVar 0) "ties") tNil))) (gName 2)
    (tSeq (tAsg (tThen (tLc (iEnumS K (tVar 2)) (gTup K 2 (gCons (gName 4) (gCons (gName 5) gNil))) tYes (tTup (tCons (tVar 4) (tCons (tVar 5) tNil))) [4, 5]) (kTup K)) (gName 3))
    (tIfS (tTest (tOp (rOwnEq (He.ga K "Book") sp_Book_eq) (tMeth (He.ga K "Book") "renamed_ties" sp_Book_renamed_ties [] E (tVar 0) (tCons (tVar 3) tNil)) (tVar 1)))
    (tRet (tVar 3))
    tNext)))
    (tRet (tC .non))))
theorem ok_same_up_to_names {P : Program} {w : World} {K : PySem.W.Frag} {mg : Str → Option Value} {base : Heap} (T : Ty K mg P) {sp_check_alike sp_all_names sp_Book_eq sp_Book_renamed_ties : Sp} (C_check_alike : Cal P w K mg base (L2.CX P w) 3 "_check_alike" ["one", "other"] sp_check_alike) (C_all_names : Cal P w K mg base CX0 4 "_all_names" ["ties"] sp_all_names) (C_Book_eq : CalM P w K mg base CX0 6 "Book" "__eq__" ["self", "other"] sp_Book_eq) (C_Book_renamed_ties : CalM P w K mg base (L2.CX P w) 9 "Book" "renamed_ties" ["self", "pairs"] sp_Book_renamed_ties) {sp : Sp} (hl : ∀ vs H Q E, sp vs H Q E → vs.length = 2)
    (tr : ∀ vs H Q E, sp vs H Q E → t_same_up_to_names K E sp_check_alike sp_all_names sp_Book_eq sp_Book_renamed_ties { nx := fun _ H' => Q .non H', rt := Q } (L2.start ["one", "other", "names", "pairs", "place", "name"] vs) H) :
    Cal P w K mg base (L2.CX P w) 10 "same_up_to_names" ["one", "other"] sp := by
  obtain ⟨fd, F⟩ := T.F_same_up_to_names
  have b : Binds K fd ["one", "other"] [] := F.bindsN fun _ _ _ _ _ _ us hl => match us, hl with | [_, _], _ => rfl
  refine ⟨⟨fd, ?_, b⟩, F.kp, T.g_same_up_to_names⟩
  refine FunD.ok F sc_same_up_to_names hl fun cdv A outer s H vs Q E hr h => ⟨_, ?_, tr vs H Q E h⟩
  have hr_check_alike : Room 3 _ := hr.mono (by decide)
  have hr_all_names : Room 4 _ := hr.mono (by decide)
  have hr_Book_eq : Room 6 _ := hr.mono (by decide)
  have hr_Book_renamed_ties : Room 9 _ := hr.mono (by decide)
  have hu64 := hr.units
  unfold t_same_up_to_names
  exact (pss_cons (ps_expr (pe_cal C_check_alike hr_check_alike (by rfl) (passes_call (takes_of rfl rfl rfl rfl) (fun _ _ _ _ h => h)) (pa_cons (pv 0) (pa_cons (pv 1) pa_nil))))
    (pss_cons (ps_for (passes_of rfl) rfl (pi_seq (pe_cal C_all_names hr_all_names (by rfl) pass0 (pa_cons (pe_fld (pv 0) rfl) pa_nil))) (pg_name (i := 2) sc_same_up_to_names.nd rfl (by first | exact Or.inl rfl | exact Or.inr rfl)) (pss_cons (ps_set (i := 3) sc_same_up_to_names.nd rfl (by first | exact Or.inl rfl | exact Or.inr rfl) (pe_tupleOf (by rfl) T.f_tuple (pe_lc (own := [("place", 4), ("name", 5)]) (g := (gTup K 2 (gCons (gName 4) (gCons (gName 5) gNil)))) (tt := tYes) rfl sc_same_up_to_names.nd (pi_enumS (by rfl) T.f_enumerate (pv 2)) (blkOk_by (by kernel_rfl)) (fun _ _ _ _ _ => (pg_tup rfl (pgs_cons (pg_name (i := 4) sc_same_up_to_names.nd rfl (by first | exact Or.inl rfl | exact Or.inr rfl)) (pgs_cons (pg_name (i := 5) sc_same_up_to_names.nd rfl (by first | exact Or.inl rfl | exact Or.inr rfl)) pgs_nil)))) (fun _ _ _ _ _ => pts_nil) (fun _ _ _ _ _ => (pe_tup (pa_cons (pv 4) (pa_cons (pv 5) pa_nil)))))))
    (pss_one (ps_if (pt_cmpR (by exact op_ownEq C_Book_eq (hr.mono (by decide))) (pe_calM C_Book_renamed_ties T.c_Book hr_Book_renamed_ties (passes_call (takes_of rfl rfl rfl rfl) (fun _ _ _ _ h => h)) (pv 0) (pa_cons (pv 3) pa_nil)) (pv 1) (nomark _)) (pss_one (ps_ret (pv 3))) pss_nil))))
    (pss_one (ps_ret pe_non))))
end Z
set_option Elab.async false
set_option linter.all false
set_option maxRecDepth 100000
set_option maxHeartbeats 1000000
namespace Z
open PySem PySem.Spec PyProof.Rows L2
/-! ### a dict of numbers -/
def kvN (ps : List (Nat × Nat)) : List (L2.Key × V) := ps.map fun p => (.inl (p.1 : Int), .int (p.2 : Int))
def dkC (K : PySem.W.Frag) (ps : List (Nat × Nat)) : Cell := ⟨fun _ o => o = .dK (kvN ps), fun _ h => h, fun h => by rw [h]; exact lv_dK⟩
/-- the name of n -/
def nmOf (ps : List (Nat × Nat)) (n : Nat) : Nat := bk (snds ps) ((fsts ps).idxOf n)
theorem val_kvN {ps : List (Nat × Nat)} {n : Nat} : valV (kvN ps) (.inl (n : Int)) = if n ∈ fsts ps then some (.int (nmOf ps n : Int)) else none := by
  unfold nmOf
  induction ps with
  | nil => rfl
  | cons p ps ih =>
    have h0 : valV (kvN (p :: ps)) (.inl (n : Int)) = if p.1 = n then some (.int (p.2 : Int)) else valV (kvN ps) (.inl (n : Int)) := by
      unfold valV kvN
      rw [List.map_cons, List.find?_cons]
      by_cases e : p.1 = n
      · subst e
        simp
      · have : ¬ ((Sum.inl (p.1 : Int) : L2.Key) = Sum.inl (n : Int)) := fun z => by
          injection z with z
          omega
        simp [this, e]
    rw [h0, ih]
    by_cases e : p.1 = n
    · subst e
      simp [fsts, snds, bk]
    · have e' : ¬ n = p.1 := fun z => e z.symm
      have e3 : (p.1 == n) = false := by simpa using e
      by_cases m : n ∈ fsts ps
      · have : n ∈ fsts (p :: ps) := List.mem_cons_of_mem _ m
        rw [if_neg e, if_pos m, if_pos this]
        simp [fsts, snds, List.idxOf_cons, e3, bk]
      · have : n ∉ fsts (p :: ps) := fun z => by
          rcases List.mem_cons.mp z with z | z
          · exact e' z
          · exact m z
        rw [if_neg e, if_neg m, if_neg this]
section
variable {P : Program} {w : World} {K : PySem.W.Frag} {bc cs : List Cell} {Γ : List Tv} {E : XK} {N : List Cell → List Cell → List Tv → Prop} {R : List Cell → Rv → Prop} {X : Xv → Prop} {mg : Str → Option Value}
theorem tr_newDK {i : Nat} (k : N bc (cs ++ [dkC K []]) (Γ.set i (.cel cs.length))) : Tr K bc cs Γ E (tAsg tDNewK (gName i)) N R X := fun M bs ls σ H S D q r x p n => by
  have S1 := S.hide (o := .dK []) n lv_dK
  exact q bc _ _ _ _ _ k (S1.newCell (c := dkC K []) upd_same rfl (S.new n).2.2) (Kp.of_ex (ex_upd n)) fun a ha => by
    rcases List.mem_append.mp ha with z | z
    · exact .inl z
    · exact .inr (by rw [List.mem_singleton.mp z]; exact n)
theorem pn_dkIn {i k n : Nat} {ty : TE} {ps : List (Nat × Nat)} (hi : Γ[i]? = some (.cel k)) (hk : cs[k]? = some (dkC K ps)) (h : Pn K bc cs Γ ty (· = .d (iD n))) : Pn K bc cs Γ (tDIn ty (tVar i)) (· = .d (.bool ((fsts ps).contains n))) := fun M bs ls σ H S Q q =>
  h M bs ls σ H S _ fun u y H1 hu S1 k1 hy => by
    subst hu
    cases hy
    refine pc (bc := bc) (cs := cs) hi M bs ls σ H1 S1 _ fun u x H2 hu S2 k2 hx => ?_
    subst hu
    obtain ⟨a, o, rfl, ea, h1, rfl⟩ := S2.cellR hx hk
    refine ⟨a, _, rfl, DGet.k (k := .inl (n : Int)) h1, ?_⟩
    have e : (valV (kvN ps) (.inl (n : Int))).isSome = (fsts ps).contains n := by
      rw [val_kvN]
      by_cases m : n ∈ fsts ps
      · rw [if_pos m]; simp [m]
      · rw [if_neg m]; simp [m]
    rw [e]
    exact q _ _ H2 rfl S2 (k1.trans k2) (.bl _)
theorem pn_dkGet {i k n : Nat} {ty : TE} {ps : List (Nat × Nat)} (hi : Γ[i]? = some (.cel k)) (hk : cs[k]? = some (dkC K ps)) (h : Pn K bc cs Γ ty (· = .d (iD n))) (hn : n ∈ fsts ps) : Pn K bc cs Γ (tDGet (tVar i) ty) (· = .d (iD (nmOf ps n))) := fun M bs ls σ H S Q q =>
  pc (bc := bc) (cs := cs) hi M bs ls σ H S _ fun u x H1 hu S1 k1 hx => by
    subst hu
    refine h M bs ls σ H1 S1 _ fun u y H2 hu S2 k2 hy => ?_
    subst hu
    cases hy
    obtain ⟨a, o, rfl, ea, h1, rfl⟩ := S2.cellR (holds.ex (t := .cel k) k2.ex hx) hk
    refine ⟨a, .int (nmOf ps n : Int), rfl, ?_, q _ _ H2 rfl S2 (k1.trans k2) (.int _)⟩
    have := DGet.k (k := .inl (n : Int)) h1
    rw [val_kvN, if_pos hn] at this
    exact this
end
end Z
set_option Elab.async false
set_option linter.all false
set_option maxRecDepth 100000
set_option maxHeartbeats 1000000
namespace Z
open PySem PySem.Spec PyProof.Rows L2
section
variable {P : Program} {w : World} {K : PySem.W.Frag} {bc cs : List Cell} {Γ : List Tv} {E : XK} {N : List Cell → List Cell → List Tv → Prop} {R : List Cell → Rv → Prop} {X : Xv → Prop} {mg : Str → Option Value}
theorem put_kvN {ps : List (Nat × Nat)} {n v : Nat} (h : n ∉ fsts ps) : putK (kvN ps) (.inl (n : Int)) (.int (v : Int)) = kvN (ps ++ [(n, v)]) := by
  unfold putK
  have : ((kvN ps).any fun kv => decide (kv.1 = (.inl (n : Int) : L2.Key))) = false := by
    rw [valV_any, val_kvN, if_neg h]
    rfl
  rw [this]
  simp [kvN]
theorem tr_dkPut {i k n v : Nat} {ty tv : TE} {ps : List (Nat × Nat)} (hi : Γ[i]? = some (.cel k)) (hk : cs[k]? = some (dkC K ps)) (hz : ps.length ≤ 1000) (hv : Pn K bc cs Γ tv (· = .d (iD v))) (h : Pn K bc cs Γ ty (· = .d (iD n))) (hn : n ∉ fsts ps) (nn : N bc (cs.set k (dkC K (ps ++ [(n, v)]))) Γ) :
    Tr K bc cs Γ E (sDPut (tVar i) ty tv) N R X := fun M bs ls σ H S D q r x =>
  hv M bs ls σ H S _ fun u1 y H1 hu S1 k1 hv1 => by
    subst hu
    cases hv1
    refine pc (bc := bc) (cs := cs) hi M bs ls σ H1 S1 _ fun u1 x H2 hu S2 k2 hx => ?_
    subst hu
    refine h M bs ls σ H2 S2 _ fun u1 y H3 hu S3 k3 hy => ?_
    subst hu
    cases hy
    obtain ⟨a, o, rfl, ea, h1, rfl⟩ := S3.cellR (holds.ex (t := .cel k) k3.ex hx) hk
    refine ⟨a, _, rfl, DPut.k (k := .inl (n : Int)) (v := .int (v : Int)) h1 (by rw [show (kvN ps).length = ps.length by simp [kvN]]; exact small1000 hz), ?_⟩
    rw [put_kvN hn]
    have S4 := S3.setCell (c := dkC K (ps ++ [(n, v)])) (o := .dK (kvN (ps ++ [(n, v)]))) ea rfl
    exact q _ _ _ ls _ _ nn S4 (((k1.trans k2).trans k3).trans (upd_kp (.inl (List.mem_of_getElem? ea)))) Fresh.refl
end
end Z
set_option Elab.async false
set_option linter.all false
set_option maxRecDepth 100000
set_option maxHeartbeats 1000000
namespace Z
open PySem PySem.Spec PyProof.Rows L2
section
variable {P : Program} {w : World} {K : PySem.W.Frag} {bc cs : List Cell} {Γ : List Tv} {E : XK} {N : List Cell → List Cell → List Tv → Prop} {R : List Cell → Rv → Prop} {X : Xv → Prop} {mg : Str → Option Value}
theorem pn_dkLen {i k : Nat} {ps : List (Nat × Nat)} (hi : Γ[i]? = some (.cel k)) (hk : cs[k]? = some (dkC K ps)) : Pn K bc cs Γ (tCB rLenD (tCons (tVar i) tNil)) (· = .d (iD ps.length)) := fun M bs ls σ H S Q q =>
  pc (bc := bc) (cs := cs) hi M bs ls σ H S _ fun u x H1 hu S1 k1 hx => by
    subst hu
    obtain ⟨a, o, rfl, ea, h1, rfl⟩ := S1.cellR hx hk
    refine ⟨a, kvN ps, rfl, h1, ?_⟩
    rw [show (kvN ps).length = ps.length by simp [kvN]]
    exact q _ _ H1 rfl S1 k1 (.int _)
theorem dq_nats {G : Hp} : ∀ l : List Nat, DqAll K G (l.map fun n : Nat => V.int (n : Int)) (isD l)
  | [] => .nil
  | n :: l => .cons (.int (n : Int)) (dq_nats l)
theorem lv_ext {φ : Heap → Prop} : Lv (some (.ext φ)) := ⟨(fun z => nomatch z), (fun _ z => nomatch z)⟩
theorem pf_dkVals {i k : Nat} {ps : List (Nat × Nat)} (hi : Γ[i]? = some (.cel k)) (hk : cs[k]? = some (dkC K ps)) : Pf K bc cs Γ (tListVals K (tVar i)) (· = isD (snds ps)) := fun M bs ls σ H S Q q => by
  unfold tListVals tCB tCons tBM0
  refine pc (bc := bc) (cs := cs) hi M bs ls σ H S _ fun u x H1 hu S1 k1 hx => ?_
  subst hu
  obtain ⟨a, o, rfl, ea, h1, rfl⟩ := S1.cellR hx hk
  refine ⟨.inr (.inr (.inl ⟨rfl, .inl ⟨_, h1⟩⟩)), a, kvN ps, rfl, rfl, h1, fun p np => ?_⟩
  have ne : a ≠ p := fun z => by rw [z, np] at h1; cases h1
  refine ⟨p, a, kvN ps, rfl, upd_same, by rw [upd_ne ne]; exact h1, fun p2 np2 => ?_⟩
  have ex1 := ex_upd (H := H1) (o := valuesO p a) np
  have S2 := S1.ex ex1
  have kk : Kp bs ls H1 (upd H1 p (valuesO p a)) := Kp.of_ex ex1
  have ex2 := ex_upd (H := upd H1 p (valuesO p a)) (o := .lst ((kvN ps).map (·.2))) np2
  refine q _ _ p2 _ rfl ((k1.trans kk).free np2) (S2.hide np2) ((k1.trans kk).trans (Kp.of_ex ex2)) upd_same ?_
  have e : (kvN ps).map (·.2) = (snds ps).map fun n : Nat => V.int (n : Int) := by simp [kvN, snds]
  rw [e]
  exact dq_nats _
end
end Z
set_option Elab.async false
set_option linter.all false
set_option maxRecDepth 100000
set_option maxHeartbeats 1000000
namespace Z
open PySem PySem.Spec PyProof.Rows L2
section
variable {P : Program} {w : World} {K : PySem.W.Frag} {bc cs : List Cell} {Γ : List Tv} {E : XK} {N : List Cell → List Cell → List Tv → Prop} {R : List Cell → Rv → Prop} {X : Xv → Prop} {mg : Str → Option Value}
/-! ### _is_couple -/
theorem whole_good {m : Nat} {x : PyData} : whole x 0 ((m : Int) - 1) = goodE m x := by
  cases x with
  | int z =>
    rw [whole_int, Bool.eq_iff_iff]
    simp only [goodE, decide_eq_true_eq, Bool.and_eq_true]
    omega
  | _ => rfl
theorem pn_items {te : TE} {d : PyData} {l : List PyData} (e : itemsD d = some l) (h : Pn K bc cs Γ te (· = .d d)) : Pn K bc cs Γ (tCB (rLen K) (tCons te tNil)) (· = .d (iD l.length)) := by
  cases d with
  | list l' => cases e; exact pn_lenD h
  | tuple l' => cases e; exact pn_lenT h
  | _ => cases e
abbrev icTs (K : PySem.W.Frag) : List Nat × PyData → List Tv := fun x => [.sem (tiesS K x.1), .d x.2]
abbrev icR : List Nat × PyData → Rv → Prop := fun x r => r = .tv (.d (.bool (cplD x.1.length x.2).isSome))
abbrev spIc (K : PySem.W.Frag) : Sp := Pro K [] (icTs K) icR
theorem items_no {m : Nat} {d : PyData} (h : itemsD d = none) : cplD m d = none ∧ (isListD d || isTupD d) = false := by
  cases d with
  | list l => cases h
  | tuple l => cases h
  | _ => exact ⟨rfl, rfl⟩
theorem items_yes {d : PyData} {l : List PyData} (h : itemsD d = some l) : (isListD d || isTupD d) = true := by
  cases d with
  | list l => rfl
  | tuple l => rfl
  | _ => cases h
theorem tr_is_couple (T : Tx K mg) (x : List Nat × PyData) : Trp K [] E (t_is_couple K (spWhole K)) 0 (icTs K) icR x := by
  obtain ⟨β, d⟩ := x
  cases hd : itemsD d with
  | none =>
    obtain ⟨h1, h2⟩ := items_no (m := β.length) hd
    refine tr_seq (tr_if (b := (true || true)) (qt_or (a := true) ((qt_not (qt_B (pn_isi2 (pd (x := d) rfl)))).mono fun t e => by rw [e, h2]; rfl) fun e => by cases e) (fun _ => ?_) fun e => (by cases e))
    refine tr_retD (x := .bool false) pc_bl ⟨rfl, ?_⟩
    show _ = Rv.tv (.d (.bool (cplD β.length d).isSome))
    rw [h1]
    rfl
  | some l =>
    refine tr_seq (tr_if (qt_or (a := false) ((qt_not (qt_B (pn_isi2 (pd (x := d) rfl)))).mono fun t e => by rw [e, items_yes hd]; rfl) fun _ => qt_of (pd_op (pn_items hd (pd rfl)) pc_int (ro_ne sh_int sh_int))) (fun hb => ?_) fun hb => tr_next ?_)
    · rw [eqv_int] at hb
      refine tr_retD (x := .bool false) pc_bl ⟨rfl, ?_⟩
      show _ = Rv.tv (.d (.bool (cplD β.length d).isSome))
      have : cplD β.length d = none := by
        unfold cplD
        rw [hd]
        match l, hb with
        | [], _ => rfl
        | [_], _ => rfl
        | [_, _], hb => simp at hb
        | _ :: _ :: _ :: _, _ => rfl
      rw [this]
      rfl
    · rw [eqv_int] at hb
      match l, hd, hb with
      | [], _, hb => simp at hb
      | [_], _, hb => simp at hb
      | _ :: _ :: _ :: _, _, hb => simp at hb; omega
      | [x, y], hd, _ =>
        refine tr_retD (x := .bool (goodE β.length x && goodE β.length y)) ?_ ⟨rfl, ?_⟩
        · rw [← whole_good, ← whole_good]
          exact pn_andV (pn_whole (pd_op (pd (x := d) rfl) pc_int (ro_items hd rfl)) pc_int (pd_op (pn_many T (ps rfl)) pc_int ro_int)) fun _ => pn_whole (pd_op (pd (x := d) rfl) pc_int (ro_items hd rfl)) pc_int (pd_op (pn_many T (ps rfl)) pc_int ro_int)
        · show _ = Rv.tv (.d (.bool (cplD β.length d).isSome))
          have : (cplD β.length d).isSome = (goodE β.length x && goodE β.length y) := by
            unfold cplD
            rw [hd]
            dsimp only
            cases goodE β.length x && goodE β.length y <;> rfl
          rw [this]
end
end Z
set_option Elab.async false
set_option linter.all false
set_option maxRecDepth 100000
set_option maxHeartbeats 1000000
namespace Z
open PySem PySem.Spec PyProof.Rows L2
/-- a dict of numbers that is changed no more -/
def dkS (ps : List (Nat × Nat)) : Sm := ⟨fun H v => ∃ a, v = .ref a ∧ H a = some (.dK (kvN ps)), fun e ⟨a, h1, h2⟩ => ⟨a, h1, e _ _ h2⟩⟩
section
variable {P : Program} {w : World} {K : PySem.W.Frag} {bc cs : List Cell} {Γ : List Tv} {E : XK} {N : List Cell → List Cell → List Tv → Prop} {R : List Cell → Rv → Prop} {X : Xv → Prop} {mg : Str → Option Value}
theorem tr_retDK {i k : Nat} {ps : List (Nat × Nat)} (hi : Γ[i]? = some (.cel k)) (hk : cs[k]? = some (dkC K ps)) (h : R bc (.tv (.sem (dkS ps)))) : Tr K bc cs Γ E (tRet (tVar i)) N R X := fun M bs ls σ H S D q r x =>
  pc (bc := bc) (cs := cs) hi M bs ls σ H S _ fun t v H1 ht S1 k1 hv => by
    subst ht
    obtain ⟨a, o, rfl, ea, h1, rfl⟩ := S1.cellR hv hk
    exact r bc _ _ H1 h S1.old (S1.base.ex (hid_more fun a m => List.mem_append_right _ m) fun _ _ _ e => e) k1 ⟨a, rfl, by rw [hid_of (S1.apart ea)]; exact h1⟩
/-- names[n], names given -/
theorem pn_dsGet {td ty : TE} {n : Nat} {ps : List (Nat × Nat)} (hd : Pn K bc cs Γ td (· = .sem (dkS ps))) (h : Pn K bc cs Γ ty (· = .d (iD n))) (hn : n ∈ fsts ps) : Pn K bc cs Γ (tDGet td ty) (· = .d (iD (nmOf ps n))) := fun M bs ls σ H S Q q =>
  hd M bs ls σ H S _ fun u x H1 hu S1 k1 hx => by
    subst hu
    refine h M bs ls σ H1 S1 _ fun u y H2 hu S2 k2 hy => ?_
    subst hu
    cases hy
    obtain ⟨a, rfl, h1⟩ := (dkS ps).up k2.ex hx
    refine ⟨a, .int (nmOf ps n : Int), rfl, ?_, q _ _ H2 rfl S2 (k1.trans k2) (.int _)⟩
    have := DGet.k (k := .inl (n : Int)) (hid_ex _ _ h1)
    rw [val_kvN, if_pos hn] at this
    exact this
end
end Z
set_option Elab.async false
set_option linter.all false
set_option maxRecDepth 100000
set_option maxHeartbeats 1000000
namespace Z
open PySem PySem.Spec PyProof.Rows L2
section
variable {P : Program} {w : World} {K : PySem.W.Frag} {bc cs : List Cell} {Γ : List Tv} {E : XK} {N : List Cell → List Cell → List Tv → Prop} {R : List Cell → Rv → Prop} {X : Xv → Prop} {mg : Str → Option Value}
/-- the error BadBook(k, s) -/
def bbX (K : PySem.W.Frag) (k : Nat) (s : Str) : Xv := ⟨He.ga K "BadBook", [(("what" : Str), .str s), ("index", .int (k : Int))]⟩
theorem tr_raiseBB {ti tw : TE} {k : Nat} {s : Str} (hi : Pn K bc cs Γ ti (· = .d (iD k))) (hw : Pn K bc cs Γ tw (· = .d (.str s))) (h : X (bbX K k s)) : Tr K bc cs Γ E (tRaiseBB K E (tCons ti (tCons tw tNil))) N R X := fun M bs ls σ H S D q r x =>
  hi M bs ls σ H S _ fun t v H1 ht S1 k1 hv => hw M bs ls σ H1 S1 _ fun t2 v2 H2 ht2 S2 k2 hv2 => by
    subst ht ht2
    cases hv
    cases hv2
    refine ⟨_, _, rfl, fun d n => ?_⟩
    exact x (bbX K k s) d _ h ((k1.trans k2).trans (Kp.of_ex (ex_upd n))) ((k1.trans k2).free n) upd_same
end
end Z
set_option Elab.async false
set_option linter.all false
set_option maxRecDepth 100000
set_option maxHeartbeats 1000000
namespace Z
open PySem PySem.Spec PyProof.Rows L2
section
variable {P : Program} {w : World} {K : PySem.W.Frag} {bc cs : List Cell} {Γ : List Tv} {E : XK} {N : List Cell → List Cell → List Tv → Prop} {R : List Cell → Rv → Prop} {X : Xv → Prop} {mg : Str → Option Value}
/-! ### _names_of -/
theorem si_enumItems {te : TE} {d : PyData} {l : List PyData} (e : itemsD d = some l) (h : Pn K bc cs Γ te (· = .d d)) : Si K bc cs Γ (iEnumS K te) (· = enD l) := by
  cases d with
  | list l' => cases e; exact si_enumL h
  | tuple l' => cases e; exact si_enumT h
  | _ => cases e
/-- what is due to any argument -/
def dueP (β : List Nat) (d : PyData) : PyData := match itemsD d with
  | none => .tuple [iD 0, .str "pairs"]
  | some l => dueF β l
/-- {}, changed no more -/
def dctS : Sm := ⟨fun H v => ∃ a, v = .ref a ∧ H a = some (.dK []), fun e ⟨a, h1, h2⟩ => ⟨a, h1, e _ _ h2⟩⟩
/-- any argument; a dict stands for {} -/
def tvA : PyData → Tv
  | .dict _ => .sem dctS
  | d => .d d
theorem tvA_pur : ∀ d, Pur (tvA d)
  | .dict _ => trivial
  | .none => trivial
  | .bool _ => trivial
  | .int _ => trivial
  | .str _ => trivial
  | .list _ => trivial
  | .tuple _ => trivial
theorem tvA_it {d : PyData} {l : List PyData} (h : itemsD d = some l) : tvA d = .d d := by
  cases d with
  | dict _ => cases h
  | _ => rfl
theorem pv_A {i : Nat} {d : PyData} (h : Γ[i]? = some (tvA d)) : Pn K bc cs Γ (tVar i) (· = tvA d) := pn_var h fun e => by cases d <;> cases e
theorem rc_isi2A : Rc K bc cs Γ (rIsiT K) [.sem dctS, .sem (clsS [.ty "list", .ty "tuple"])] (· = .d (.bool false)) := rc_val fun M bs ls σ H vs S hv Q q => by
  obtain ⟨v, w, rfl, ⟨a, rfl, ha⟩, p, rfl, hp⟩ := hv.two
  refine ⟨.ref a, p, _, _, [.type "list", .type "tuple"], false, rfl, hid_ex _ _ hp, .cons (.ty "list") (.cons (.ty "tuple") .nil), .base (.dK (hid_ex _ _ ha)), ?_, q _ (.bl _)⟩
  exact kitAny_cons (kit_ty (kit_list (.dict []))) (fun e => kitAny_cons (b := false) (kit_ty (kit_tup (.dict []))) (fun e2 => kitAny_nil) fun e2 => e2) fun e => by cases e
theorem pn_isiA {te : TE} {d : PyData} (h : Pn K bc cs Γ te (· = tvA d)) : Pn K bc cs Γ (tCB (rIsiT K) (tCons te (tCons (tTup (tCons (tC (.ty "list")) (tCons (tC (.ty "tuple")) tNil))) tNil))) (· = .d (.bool (isListD d || isTupD d))) := by
  cases d with
  | dict _ => exact pn_cb (qa_cons h (qa_cons (pn_cls (vs := [.ty "list", .ty "tuple"]) (qa_cons pc_v (qa_cons pc_v qa_nil)) (by decide)) qa_nil)) rc_isi2A
  | _ => exact pn_isi2 h
structure NoI where
  β : List Nat
  d : PyData
  bl : Bks β
  few : ∀ l, itemsD d = some l → l.length ≤ 100
abbrev noTs (K : PySem.W.Frag) : NoI → List Tv := fun x => [.sem (tiesS K x.β), tvA x.d]
abbrev noR : NoI → Rv → Prop := fun x r => ∃ l, itemsD x.d = some l ∧ dueF x.β l = .none ∧ r = .tv (.sem (dkS (l.filterMap (cplD x.β.length))))
abbrev noX (K : PySem.W.Frag) : NoI → Xv → Prop := fun x v => ∃ k s, dueP x.β x.d = .tuple [iD k, .str s] ∧ v = bbX K k s
abbrev spNo (K : PySem.W.Frag) : Sp := ProX K [] (noTs K) noR (noX K)
end
end Z
set_option Elab.async false
set_option linter.all false
set_option maxRecDepth 100000
set_option maxHeartbeats 1000000
namespace Z
open PySem PySem.Spec PyProof.Rows L2
section
variable {P : Program} {w : World} {K : PySem.W.Frag} {bc cs : List Cell} {Γ : List Tv} {E : XK} {N : List Cell → List Cell → List Tv → Prop} {R : List Cell → Rv → Prop} {X : Xv → Prop} {mg : Str → Option Value}
theorem cpl_get {m : Nat} {d : PyData} {p : Nat × Nat} (h : cplD m d = some p) : ∃ l, itemsD d = some l ∧ atI l 0 = some (iD p.1) ∧ atI l 1 = some (iD p.2) ∧ p.1 < m ∧ p.2 < m := by
  unfold cplD at h
  cases q : itemsD d with
  | none => rw [q] at h; cases h
  | some l =>
    rw [q] at h
    match l, h with
    | [x, y], h =>
      dsimp only at h
      by_cases g : (goodE m x && goodE m y) = true
      · rw [if_pos g] at h
        rw [Bool.and_eq_true] at g
        obtain ⟨e1, l1⟩ := good_nat g.1
        obtain ⟨e2, l2⟩ := good_nat g.2
        have h := Option.some.inj h
        subst h
        refine ⟨_, rfl, ?_, ?_, l1, l2⟩
        · show some x = some (iD (natD x))
          rw [← e1]
        · show some y = some (iD (natD y))
          rw [← e2]
      · rw [if_neg g] at h
        cases h
theorem kind_cpl {m : Nat} {items : List PyData} {i : Nat} {d : PyData} (h : items[i]? = some d) (k : kind m items i = none) : ∃ p, cplD m d = some p := by
  unfold kind at k
  rw [h] at k
  dsimp only at k
  cases q : cplD m d with
  | none => rw [q] at k; cases k
  | some p => exact ⟨p, rfl⟩
theorem prs_len {m : Nat} {items : List PyData} : ∀ {i : Nat}, i ≤ items.length → (∀ j, j < i → kind m items j = none) → (prs m items i).length = i
  | 0, _, _ => rfl
  | i + 1, h, k => by
    have hi : items[i]? = some items[i] := List.getElem?_eq_getElem (by omega)
    obtain ⟨p, hp⟩ := kind_cpl hi (k i (by omega))
    rw [prs_succ hi hp, List.length_append, prs_len (by omega) fun j hj => k j (by omega)]
    rfl
theorem prs_all {m : Nat} {items : List PyData} : prs m items items.length = items.filterMap (cplD m) := by
  unfold prs
  rw [List.take_length]
theorem prs_at {m : Nat} {items : List PyData} {i : Nat} {d : PyData} {p : Nat × Nat} (h : items[i]? = some d) (e : cplD m d = some p) (l : (prs m items i).length = i) : (items.filterMap (cplD m))[i]? = some p := by
  have hs := prs_succ h e
  have : items.filterMap (cplD m) = prs m items (i + 1) ++ (items.drop (i + 1)).filterMap (cplD m) := by
    unfold prs
    rw [← List.filterMap_append, List.take_append_drop]
  rw [this, hs]
  rw [List.getElem?_append_left (by simp; omega), List.getElem?_append_right (by omega), l, Nat.sub_self]
  rfl
theorem bk_fst {ps : List (Nat × Nat)} {i : Nat} {p : Nat × Nat} (h : ps[i]? = some p) : bk (fsts ps) i = p.1 ∧ bk (snds ps) i = p.2 := by
  unfold bk fsts snds
  simp [List.getD_eq_getElem?_getD, h]
theorem tr_names_of (T : Ty K mg P) (x : NoI) : Tr K [] [] (noTs K x ++ List.replicate 3 .any) E (t_names_of K E (spIc K)) (fun b _ _ => b = [] ∧ noR x (.tv (.d .none))) (fun b r => b = [] ∧ noR x r) (noX K x) := by
  obtain ⟨β, d, bl, few⟩ := x
  have hm := bl.hi
  have hlo := bl.lo
  cases hd : itemsD d with
  | none =>
    obtain ⟨-, h2⟩ := items_no (m := β.length) hd
    refine tr_seq (tr_if (b := true) ((qt_not (qt_B (pn_isiA (pv_A (d := d) rfl)))).mono fun t e => by rw [e, h2]; rfl) (fun _ => ?_) fun e => (by cases e))
    refine tr_raiseBB (k := 0) (s := "pairs") pc_int pc_str ⟨0, "pairs", ?_, rfl⟩
    show dueP β d = _
    unfold dueP
    rw [hd]
  | some items =>
    have hfew := few items hd
    have hP : dueP β d = dueF β items := by unfold dueP; rw [hd]
    have hA : noTs K ⟨β, d, bl, few⟩ = [.sem (tiesS K β), .d d] := by
      show [Tv.sem (tiesS K β), tvA d] = _
      rw [tvA_it hd]
    rw [hA]
    refine tr_seq (tr_if (b := false) ((qt_not (qt_B (pn_isi2 (pd (x := d) rfl)))).mono fun t e => by rw [e, items_yes hd]; rfl) (fun e => by cases e) fun _ => tr_next ?_)
    refine tr_seq (tr_newDK ?_)
    refine tr_seq (tr_for (si_enumItems hd (pd rfl)) (fun _ i b c γ => b = [] ∧ i ≤ items.length ∧ Wk γ [.sem (tiesS K β), .d d, .cel 0, .any, .any] ∧ c = [dkC K (prs β.length items i)] ∧ (∀ j, j < i → kind β.length items j = none) ∧ PrOk β.length (prs β.length items i)) (fun ds e => ⟨rfl, Nat.zero_le _, Wk.refl _, rfl, fun j h => absurd h (Nat.not_lt_zero _), ⟨fun p m => (by cases m), List.nodup_nil, List.nodup_nil⟩⟩) ?_ ?_)
    · rintro ds i y b c γ rfl hy ⟨rfl, hil, hw, rfl, hk, hok⟩
      obtain ⟨e, he, rfl⟩ := enD_get hy
      have hi := (List.getElem?_eq_some_iff.mp he).1
      have hlen := prs_len hil hk
      refine ⟨_, _, tg_2, tr_wk (wk_set (wk_set hw)) ?_⟩
      refine tr_seq (tr_if (qt_not (qt_B (pn_call (T := (· = .d (.bool (cplD β.length e).isSome))) (β, e) (qa_cons (ps rfl) (qa_cons (pd rfl) qa_nil)) (fun t m => by
        simp at m
        rcases m with rfl | rfl <;> trivial) fun r hr => by
          cases hr
          exact ⟨trivial, rfl⟩))) (fun hb => ?_) fun hb => tr_next ?_)
      · refine tr_raiseBB (pd rfl) pc_str ⟨i, "pair", ?_, rfl⟩
        show dueP β d = _
        rw [hP]
        refine due_kind hk ?_
        unfold kind
        rw [he]
        dsimp only
        cases q : cplD β.length e with
        | none => rfl
        | some p => rw [q] at hb; cases hb
      · cases q : cplD β.length e with
        | none => rw [q] at hb; cases hb
        | some p =>
          obtain ⟨l, hl, a0, a1, l1, l2⟩ := cpl_get q
          have hkind : kind β.length items i = if (fsts (prs β.length items i)).contains p.1 || (snds (prs β.length items i)).contains p.2 then some ("double" : Str) else none := by
            unfold kind
            rw [he]
            dsimp only
            rw [q]
          have i0 : ∀ {cs}, Pn K [] cs [.sem (tiesS K β), .d d, .cel 0, .d (iD i), .d e] (tOp (rIxLT K) (tVar 4) (tC (.int 0))) (· = .d (iD p.1)) := by
            intro cs
            exact pd_op (pd rfl) pc_int (ro_items hl a0)
          have i1 : ∀ {cs}, Pn K [] cs [.sem (tiesS K β), .d d, .cel 0, .d (iD i), .d e] (tOp (rIxLT K) (tVar 4) (tC (.int 1))) (· = .d (iD p.2)) := by
            intro cs
            exact pd_op (pd rfl) pc_int (ro_items hl a1)
          refine tr_seq (tr_if (b := (fsts (prs β.length items i)).contains p.1 || (snds (prs β.length items i)).contains p.2) (qt_or (qt_B (pn_dkIn (k := 0) rfl rfl i0)) fun _ => qt_of ?_) (fun hb => ?_) fun hb => tr_next ?_)
          · rw [← any_isD]
            exact pd_op i1 (pf_dkVals (k := 0) rfl rfl).psd (ro_in (.s _) sh_int ((fl_is _).sh (by decide)))
          · refine tr_raiseBB (pd rfl) pc_str ⟨i, "double", ?_, rfl⟩
            show dueP β d = _
            rw [hP]
            exact due_kind hk (by rw [hkind, hb]; rfl)
          · have hb1 := Bool.or_eq_false_iff.mp hb
            have hs := prs_succ he q
            have h1 : p.1 ∉ fsts (prs β.length items i) := by simpa using hb1.1
            have h2 : p.2 ∉ snds (prs β.length items i) := by simpa using hb1.2
            refine tr_dkPut (k := 0) (ps := prs β.length items i) rfl rfl (by rw [hlen]; omega) i1 i0 h1 ⟨rfl, hi, ⟨.inr rfl, .inr rfl, .inr rfl, .inl rfl, .inl rfl, trivial⟩, ?_, fun j hj => ?_, ?_⟩
            · rw [hs]
              rfl
            · by_cases z : j = i
              · rw [z, hkind, hb]; rfl
              · exact hk j (by omega)
            · rw [hs]
              exact hok.push l1 l2 h1 h2
    · rintro ds b c γ rfl ⟨rfl, _, hw, rfl, hk, hok⟩
      rw [enD_len] at hk hok
      rw [enD_len]
      have hlen := prs_len (Nat.le_refl _) hk
      rw [prs_all] at hok hlen ⊢
      have hdue := due_good hk
      refine tr_wk hw ?_
      refine tr_seq (tr_if (qt_of (pd_op (pn_dkLen (k := 0) rfl rfl) (pn_many T.toTx (ps rfl)) ro_bl)) (fun hb => ?_) fun hb => tr_next ?_)
      · have hb' := of_decide_eq_true hb
        refine tr_raiseBB (pn_items hd (pd rfl)) pc_str ⟨items.length, "lacking", ?_, rfl⟩
        show dueP β d = _
        rw [hP, hdue, if_pos (by omega)]
      · have hb' := of_decide_eq_false hb
        have hfw := hok.few
        rw [if_neg (by omega)] at hdue
        generalize hps : items.filterMap (cplD β.length) = qs at *
        have hpm : qs.length = β.length := by omega
        have hf : (fsts qs).length = qs.length := by simp [fsts]
        have inF : ∀ {x : Nat}, x < β.length → x ∈ fsts qs := fun hx => nodup_full hok.n1 (fun y hy => by
          obtain ⟨p, hp, rfl⟩ := List.mem_map.mp hy
          exact (hok.lt p hp).1) (by omega) hx
        refine tr_seq (tr_for (si_enumItems hd (pd rfl)) (fun _ k b c γ => b = [] ∧ c = [dkC K qs] ∧ Wk γ [.sem (tiesS K β), .d d, .cel 0, .any, .any] ∧ ∀ j, j < k → backOk β qs j = true) (fun ds e => ⟨rfl, rfl, Wk.refl _, fun j h => absurd h (Nat.not_lt_zero _)⟩) ?_ ?_)
        · rintro ds k y b c γ rfl hy ⟨rfl, rfl, hw, hB⟩
          obtain ⟨e, he, rfl⟩ := enD_get hy
          have hkl := (List.getElem?_eq_some_iff.mp he).1
          obtain ⟨p, hp⟩ := kind_cpl he (hk k hkl)
          obtain ⟨l, hl, a0, a1, l1, l2⟩ := cpl_get hp
          have hat : qs[k]? = some p := by
            rw [← hps]
            exact prs_at he hp (prs_len (by omega) fun j hj => hk j (by omega))
          obtain ⟨b1, b2⟩ := bk_fst hat
          refine ⟨_, _, tg_2, tr_wk (wk_set (wk_set hw)) ?_⟩
          have hB' : backOk β qs k = decide (bk β p.2 = nmOf qs (bk β p.1)) := by
            unfold backOk nmOf
            rw [b1, b2]
          refine tr_if (b := !backOk β qs k) (qt_of ((pd_op (pd_op (pn_ties T.toTx (ps rfl)) (pd_op (pd rfl) pc_int (ro_items hl a1)) (ro_ixT (isD_atI l2))) (pn_dkGet (k := 0) (ps := qs) rfl rfl (pd_op (pn_ties T.toTx (ps rfl)) (pd_op (pd rfl) pc_int (ro_items hl a0)) (ro_ixT (isD_atI l1))) (inF (bl.lt _ l1))) (ro_ne sh_int sh_int)).mono fun t z => ?_)) (fun hb => ?_) fun hb => tr_next ⟨rfl, rfl, ⟨.inr rfl, .inr rfl, .inr rfl, .inl rfl, .inl rfl, trivial⟩, fun j hj => ?_⟩
          · rw [z, eqv_int, hB']
            congr 3
            show decide _ = decide _
            exact decide_eq_decide.mpr ⟨fun h => by omega, fun h => by rw [h]⟩
          · refine tr_raiseBB (pd rfl) pc_str ⟨k, "back", ?_, rfl⟩
            show dueP β d = _
            rw [hP, hdue, find_range (by omega) hb fun j hj => by rw [hB j hj]; rfl]
          · by_cases z : j = k
            · rw [z]; simpa using hb
            · exact hB j (by omega)
        · rintro ds b c γ rfl ⟨rfl, rfl, hw, hB⟩
          rw [enD_len] at hB
          refine tr_wk hw (tr_retDK (k := 0) rfl rfl ⟨rfl, items, hd, ?_, ?_⟩)
          · rw [hdue, find_range_none fun j hj => by rw [hB j (by omega)]; rfl]
          · rw [hps]
end
end Z
set_option Elab.async false
set_option linter.all false
set_option maxRecDepth 100000
set_option maxHeartbeats 1000000
namespace Z
open PySem PySem.Spec PyProof.Rows L2
/-! ### list(e), e an iterator whose items are new pairs -/
structure PSrc (P : Program) (w : World) (A : Around) (I S : Addr) (W : List Addr) (n : Nat) (Rel : Nat → Value → Value → Prop) (St : Nat → Heap → Prop) : Prop where
  off : S ∉ W
  frame : ∀ i h h', St i h → (∀ b o, b ≠ S → h.get? b = some o → h'.get? b = some o) → St i h'
  item : ∀ i (s : Shared) (Q : Option Value → Shared → Prop) (E : Value → Shared → Prop), i < n → S < s.heap.objs.size → St i s.heap →
    (∀ k v h' tk, Rel i k v → h'.get? s.heap.objs.size = some { cls := .type "tuple", data := .seq #[k, v] } → St (i + 1) h' → (∀ b o, b ∉ W → s.heap.get? b = some o → h'.get? b = some o) →
      Q (some (.ref s.heap.objs.size)) { s with heap := h', toks := tk }) → wpAny (model P w) A (pyNext (.ref I)) Q E s
  done : ∀ (s : Shared) (Q : Option Value → Shared → Prop) (E : Value → Shared → Prop), St n s.heap →
    (∀ h' tk, (∀ b o, b ∉ W → s.heap.get? b = some o → h'.get? b = some o) → Q none { s with heap := h', toks := tk }) → wpAny (model P w) A (pyNext (.ref I)) Q E s
/-- the pairs so far, at as -/
structure PGot (Rel : Nat → Value → Value → Prop) (lo : Addr) (h : Heap) (as : List Addr) : Prop where
  up : as.Pairwise (· < ·)
  hi : ∀ a ∈ as, lo < a
  at' : ∀ (j : Nat) (a : Addr), as[j]? = some a → ∃ k v, Rel j k v ∧ h.get? a = some { cls := .type "tuple", data := .seq #[k, v] }
section
variable {P : Program} {w : World} {A : Around} {s : Shared} {R : Result → Shared → Prop} {I S : Addr} {W : List Addr} {n : Nat} {Rel : Nat → Value → Value → Prop} {St : Nat → Heap → Prop}
theorem PGot.old {lo : Addr} {h : Heap} {as : List Addr} (g : PGot Rel lo h as) {a : Addr} (m : a ∈ as) : a < h.objs.size := by
  obtain ⟨j, hj⟩ := List.mem_iff_getElem?.mp m
  obtain ⟨_, _, _, e⟩ := g.at' j a hj
  exact Heap.lt_size e
theorem pg_loop (Z : PSrc P w A.in1 I S W n Rel St) (hW : ∀ b ∈ W, b < S) (hn : n ≤ sizeLine) (res : Value) {h₁ : Heap}
    (hR : ∀ h' tk acc c as, (∀ b o, b ≠ S → b ∉ W → h₁.get? b = some o → h'.get? b = some o) → h'.get? S = some { cls := .type "list", dict := none, data := .seq acc c, slots := #[] } → as.length = n → PGot Rel S h' as →
      acc.toList = as.map Value.ref → R (.ok (.ret res)) { s with heap := h', toks := tk }) :
    ∀ (k i : Nat) (h : Heap) (tk c : Nat) (acc : Array Value) (as : List Addr), n - i = k → i ≤ n → St i h → (∀ b o, b ≠ S → b ∉ W → h₁.get? b = some o → h.get? b = some o) →
      h.get? S = some { cls := .type "list", dict := none, data := .seq acc c, slots := #[] } → acc.toList = as.map Value.ref → as.length = i → PGot Rel S h as →
      codeAny (model P w) A (.builtin "list.extend.loop" ⟨[.ref S, .ref I, res], []⟩) R { s with heap := h, toks := tk } := by
  intro k
  induction k with
  | zero =>
    intro i h tk c acc as hk hi st keep hS hacc hal hG
    have e : i = n := by omega
    subst e
    refine codeAny_builtin F.entry_extend_loop ?_
    rw [Around.under_plainId F.plain_extend_loop _]
    refine wpAny_bind (m := pyNext (.ref I)) (Z.done { s with heap := h, toks := tk } _ _ st fun h' tk' ke => ?_)
    refine wpAny_pure (hR h' tk' acc c as (fun b o h1 h2 e => ke b o h2 (keep b o h1 h2 e)) (ke S _ Z.off hS) hal ⟨hG.up, hG.hi, fun j a hj => ?_⟩ hacc)
    obtain ⟨k1, v1, e1, e2⟩ := hG.at' j a hj
    exact ⟨k1, v1, e1, ke a _ (fun m => Nat.lt_asymm (hW a m) (hG.hi a (List.mem_of_getElem? hj))) e2⟩
  | succ k ih =>
    intro i h tk c acc as hk hi st keep hS hacc hal hG
    have hlt : i < n := by omega
    have hsz : acc.size = i := by rw [← Array.length_toList, hacc, List.length_map, hal]
    have hSl : S < h.objs.size := Heap.lt_size hS
    refine codeAny_builtin F.entry_extend_loop ?_
    rw [Around.under_plainId F.plain_extend_loop _]
    refine wpAny_bind (m := pyNext (.ref I)) (Z.item i { s with heap := h, toks := tk } _ _ hlt hSl st fun k1 v1 h' tk' hRel ht st' ke => ?_)
    dsimp only at ht ke ⊢
    have hS' := ke S _ Z.off hS
    have up : ∀ b o, b ≠ S → h'.get? b = some o → (h'.update S (Obj.mapSeq (·.push (Value.ref h.objs.size)))).get? b = some o := fun b o hb e => (Heap.get?_update_other _ _ (Ne.symm hb)).trans e
    show wpAny _ A.in1 (updateSeq S (·.push (Value.ref h.objs.size)) >>= _) _ _ _
    refine wpAny_bind ?_
    refine wpAny_updateSeq hS' rfl (wpAny_pure ⟨plainId_quiet F.plain_extend_loop _, ih (i + 1) _ tk' _ (acc.push (Value.ref h.objs.size)) (as ++ [h.objs.size]) (by omega) hlt (Z.frame _ _ _ st' up)
      (fun b o h1 h2 e => up b o h1 (ke b o h2 (keep b o h1 h2 e))) (Heap.get?_update_self _ hS' rfl) (by rw [Array.toList_push, hacc, List.map_append]; rfl) (by rw [List.length_append, hal]; rfl) ⟨?_, ?_, ?_⟩⟩) (by rw [hsz]; omega) (by show (acc.push (Value.ref h.objs.size)).size ≤ sizeLine + 1; rw [Array.size_push, hsz]; omega)
    · refine List.pairwise_append.mpr ⟨hG.up, List.pairwise_singleton _ _, fun a ha b hb => ?_⟩
      rw [List.mem_singleton.mp hb]
      exact hG.old ha
    · intro a ha
      rcases List.mem_append.mp ha with z | z
      · exact hG.hi a z
      · rw [List.mem_singleton.mp z]; exact hSl
    · intro j b hj
      by_cases h1 : j < as.length
      · rw [List.getElem?_append_left h1] at hj
        obtain ⟨k2, v2, e1, e2⟩ := hG.at' j b hj
        have hb := hG.hi b (List.mem_of_getElem? hj)
        exact ⟨k2, v2, e1, up b _ (Nat.ne_of_gt hb) (ke b _ (fun m => Nat.lt_asymm (hW b m) hb) e2)⟩
      · have hj2 := (List.getElem?_eq_some_iff.mp hj).1
        rw [List.length_append, List.length_singleton] at hj2
        have ej : j = as.length := by omega
        subst ej
        have hb : h.objs.size = b := by simpa using hj
        subst hb
        exact ⟨k1, v1, by rw [hal]; exact hRel, up _ _ (Nat.ne_of_gt hSl) ht⟩
end
/-- an iterator that gives itself and no hint of its length -/
structure PIt (T : String) : Prop where
  len : typeLookup (.type T) "__len__" = pure none
  hint : typeLookup (.type T) "__length_hint__" = pure none
  nl : (Value.type T == Value.type "list") = false
  nt : (Value.type T == Value.type "tuple") = false
section
variable {P : Program} {w : World} {A : Around} {s : Shared} {R : Result → Shared → Prop} {I S : Addr} {W : List Addr} {n : Nat} {Rel : Nat → Value → Value → Prop} {St : Nat → Heap → Prop} {T : String}
theorem pg_extend (pt : PIt T) (ty : ∀ (s : Shared), St 0 s.heap → s.TypeIs (.ref I) T) (self : ∀ (s : Shared) (Q : Value → Shared → Prop) (E : Value → Shared → Prop), St 0 s.heap → Q (.ref I) s → wpAny (model P w) A.in1 (pyIter (.ref I)) Q E s)
    (Z : PSrc P w A.in1 I S W n Rel St) (hI : I ∈ W) (hW : ∀ b ∈ W, b < S) (hn : n ≤ sizeLine) (res : Value) (st : St 0 s.heap) (c₀ : Nat) (hS : s.heap.get? S = some { cls := .type "list", data := .seq #[] c₀ })
    (hR : ∀ h' tk acc c as, (∀ b o, b ≠ S → b ∉ W → s.heap.get? b = some o → h'.get? b = some o) → h'.get? S = some { cls := .type "list", dict := none, data := .seq acc c, slots := #[] } → as.length = n → PGot Rel S h' as →
      acc.toList = as.map Value.ref → R (.ok (.ret res)) { s with heap := h', toks := tk }) :
    wpAny (model P w) A.in1 (Builtin.List.listExtendWith (.ref S) (.ref I) res)
      (fun fin s' => match fin with | .done f => R (.ok f) s' | .again c' => c'.quiet = true ∧ codeAny (model P w) A c' R s') (fun e s' => R (.error e) s') s := by
  have hSI : S ≠ I := fun z => Nat.lt_irrefl _ (by have := hW I hI; rwa [← z] at this)
  unfold Builtin.List.listExtendWith
  refine wpAny_bind (wpAny_typeOf (ty _ st) ?_)
  have h1 : Builtin.List.listSameRef (.ref S) (.ref I) = false := by simp [Builtin.List.listSameRef, hSI]
  simp only [h1, pt.nl, pt.nt, Bool.or_false, Bool.false_eq_true, if_false]
  refine wpAny_bind (self _ _ _ st ?_)
  refine wpAny_bind (wpAny_holding ?_)
  unfold Builtin.List.listLengthHint
  refine wpAny_bind (wpAny_specialOf (ty _ st) pt.len ?_)
  show wpAny _ A.in1 (specialOf (Value.ref I) (Str.ofString "__length_hint__") >>= _) _ _ _
  refine wpAny_bind (wpAny_specialOf (ty _ st) pt.hint ?_)
  refine wpAny_pure ?_
  show wpAny _ A.in1 (rule "list.extend.makes-room" >>= fun _ => Builtin.List.listTouch (.ref S) >>= fun _ => again (.builtin "list.extend.loop" ⟨[.ref S, .ref I, res], []⟩)) _ _ _
  refine wpAny_bind (wpAny_rule ?_)
  refine wpAny_bind ?_
  show wpAny _ A.in1 (updateSeq S (·.push .none) >>= fun _ => updateSeq S (·.pop)) _ _ _
  refine wpAny_bind (wpAny_updateSeq hS rfl ?_)
  have hS2 := Heap.get?_update_self (Obj.mapSeq (·.push Value.none)) hS rfl
  refine wpAny_updateSeq (hz := by seq_fits) hS2 rfl ?_
  have hS3 := Heap.get?_update_self (Obj.mapSeq (·.pop)) hS2 rfl
  have oth : ∀ b o, b ≠ S → s.heap.get? b = some o → ((s.heap.update S (Obj.mapSeq (·.push Value.none))).update S (Obj.mapSeq (·.pop))).get? b = some o :=
    fun b o hb e => (Heap.get?_update_other _ _ (Ne.symm hb)).trans ((Heap.get?_update_other _ _ (Ne.symm hb)).trans e)
  exact wpAny_pure ⟨plainId_quiet F.plain_extend_loop _, pg_loop (s := s) (h₁ := s.heap) Z hW hn res hR n 0 _ s.toks _ #[] [] rfl (Nat.zero_le _) (Z.frame _ _ _ st oth) (fun b o hb _ e => oth b o hb e) hS3 rfl rfl
    ⟨List.Pairwise.nil, (fun _ ha => nomatch ha), fun j a hj => by simp at hj⟩⟩
/-- list(e) -/
theorem pg_call {E : Value → Shared → Prop} {Q : Value → Shared → Prop} (pt : PIt T) (ty : ∀ (s : Shared), St 0 s.heap → s.TypeIs (.ref I) T) (self : ∀ (A : Around) (s : Shared) (Q : Value → Shared → Prop) (E : Value → Shared → Prop), St 0 s.heap → Q (.ref I) s → wpAny (model P w) A (pyIter (.ref I)) Q E s)
    (Z : PSrc P w A.in1.in1 I s.heap.objs.size W n Rel St) (hI : I ∈ W) (hW : ∀ b ∈ W, b < s.heap.objs.size) (hn : n ≤ sizeLine) (st : St 0 s.heap)
    (hQ : ∀ h' tk acc c as, (∀ b o, b ∉ W → s.heap.get? b = some o → h'.get? b = some o) → h'.get? s.heap.objs.size = some { cls := .type "list", dict := none, data := .seq acc c, slots := #[] } → as.length = n → PGot Rel s.heap.objs.size h' as →
      acc.toList = as.map Value.ref → Q (.ref s.heap.objs.size) { s with heap := h', toks := tk }) :
    wpAny (model P w) A (call (.type "list") [.ref I]) Q E s := by
  refine callType_codes (Q₁ := fun obj s₁ => obj = .ref s.heap.objs.size ∧ s₁ = { s with heap := s.heap.push { cls := .type "list", data := .seq #[] } }) F.called_list (F.typeCall_list_1 _) F.entry_list_init
    (code_list_new _ ⟨rfl, rfl⟩) fun obj s₁ h₁ => ?_
  obtain ⟨rfl, rfl⟩ := h₁
  have hS : (s.heap.push { cls := .type "list", data := .seq #[] }).get? s.heap.objs.size = some { cls := .type "list", data := .seq #[] } := Heap.get?_push_size _ rfl
  have st1 : St 0 (s.heap.push { cls := .type "list", data := .seq #[] }) := Z.frame _ _ _ st fun b o _ e => Heap.get?_push_of_some _ e
  refine ⟨⟨_, hS, rfl⟩, F.args_list_init_2 _ _, ?_⟩
  show wpAny _ _ (do let old ← Builtin.List.listItems (.ref s.heap.objs.size); Builtin.List.listUpdate (.ref s.heap.objs.size) (fun _ => #[]); letGo old.toList.reverse; Builtin.List.listExtendWith (.ref s.heap.objs.size) (.ref I) .none) _ _ _
  refine wpAny_bind ?_
  unfold Builtin.List.listItems
  refine wpAny_bind (wpAny_seqItems hS rfl (wpAny_pure ?_))
  show wpAny _ _ (updateSeq s.heap.objs.size (fun _ => #[]) >>= fun _ => letGo (#[] : Array Value).toList.reverse >>= fun _ => Builtin.List.listExtendWith (.ref s.heap.objs.size) (.ref I) .none) _ _ _
  refine wpAny_bind (wpAny_updateSeq hS rfl ?_)
  have hS2 := Heap.get?_update_self (Obj.mapSeq (fun _ => (#[] : Array Value))) hS rfl
  have oth : ∀ b o, b ≠ s.heap.objs.size → (s.heap.push { cls := .type "list", data := .seq #[] }).get? b = some o → ((s.heap.push { cls := .type "list", data := .seq #[] }).update s.heap.objs.size (Obj.mapSeq (fun _ => (#[] : Array Value)))).get? b = some o :=
    fun b o hb e => (Heap.get?_update_other _ _ (Ne.symm hb)).trans e
  refine wpAny_bind (wpAny_letGo ?_)
  refine pg_extend (A := A.in1) pt ty (fun s Q E => self _ s Q E) Z hI hW hn .none (Z.frame _ _ _ st1 oth) _ hS2 fun h' tk acc c as hk hS' hl hG hacc => ?_
  exact ⟨rfl, hQ h' tk acc c as (fun b o hb e => hk b o (Nat.ne_of_lt (Heap.lt_size e)) hb (oth b o (Nat.ne_of_lt (Heap.lt_size e)) (Heap.get?_push_of_some _ e))) hS' hl hG hacc⟩
end
end Z
set_option Elab.async false
set_option linter.all false
set_option maxRecDepth 100000
set_option maxHeartbeats 1000000
namespace Z
open PySem PySem.Spec PyProof.Rows L2
/-! ### enumerate, the pair that was given last still there -/
section
variable {P : Program} {w : World} {A : Around} {E : Value → Shared → Prop} {s : Shared}
theorem enum_held {e it T : Addr} {fp : List Addr} {n i : Nat} {Pi : Nat → Value → Prop} {St : Nat → Heap → Prop} {old : Value} {f : Bool} {oT : Obj} {Q : Value → Shared → Prop}
    (D : Draws P w A it fp n Pi St) (he : IsEnumHeld s.heap e it i old T f) (hT : s.heap.get? T = some oT) (hTe : T ≠ e) (hTi : T ≠ it) (hst : St i s.heap) (hlt : i < n) (hne : e ≠ it) (hef : e ∉ fp)
    (hQ : ∀ x h' tk, Pi i x → IsEnumHeld h' e it ((i : Int) + 1) old T true → St (i + 1) h' → h'.get? s.heap.objs.size = some { cls := .type "tuple", data := .seq #[.int i tk, x] } →
      (∀ b o, b ≠ e → b ≠ it → s.heap.get? b = some o → h'.get? b = some o) → Q (.ref s.heap.objs.size) { s with heap := h', toks := tk + 1 }) :
    wpAny (model P w) A (Builtin.«enumerate.__next__» ⟨[.ref e], []⟩) (fun fin s' => ∃ v, fin = .done (.ret v) ∧ Q v s') E s := by
  obtain ⟨hp, g, d, tk0, os⟩ := s
  show wpAny _ _ (field (.ref e) 2 >>= _) _ _ _
  refine wpAny_bind (wpAny_field he rfl (x := .ref it) rfl ?_)
  refine wpAny_bind (D.item i _ _ _ hlt hst fun x g1 tk hPx st1 s1 => ?_)
  replace s1 : Heap.SameBut it hp g1 := s1
  have e1 : IsEnumHeld g1 e it i old T f := (s1.2 e hne).trans he
  show wpAny _ _ (field (.ref e) 3 >>= _) _ _ ⟨g1, g, d, tk, os⟩
  refine wpAny_bind (wpAny_field e1 rfl (x := rawInt i) rfl ?_)
  show wpAny _ _ (field (.ref e) 4 >>= _) _ _ ⟨g1, g, d, tk, os⟩
  refine wpAny_bind (wpAny_field e1 rfl (x := .none) rfl ?_)
  show wpAny _ _ (mkInt i >>= _) _ _ ⟨g1, g, d, tk, os⟩
  refine wpAny_bind (wpAny_mkInt ?_)
  show wpAny _ _ (setField (.ref e) 3 (rawInt ((i : Int) + 1)) >>= _) _ _ ⟨g1, g, d, tk + 1, os⟩
  refine wpAny_bind (wpAny_setField_rec e1 (by simp) fun g2 e2 s2 => ?_)
  replace s2 : Heap.SameBut e g1 g2 := s2
  replace e2 : IsEnumHeld g2 e it ((i : Int) + 1) old T f := e2
  show wpAny _ _ (setField (.ref e) 4 .none >>= _) _ _ ⟨g2, g, d, tk + 1, os⟩
  refine wpAny_bind (wpAny_setField_rec e2 (by simp) fun g3 e3 s3 => ?_)
  replace s3 : Heap.SameBut e g2 g3 := s3
  replace e3 : IsEnumHeld g3 e it ((i : Int) + 1) old T f := e3
  show wpAny _ _ (newTuple [.int i tk, x] >>= _) _ _ ⟨g3, g, d, tk + 1, os⟩
  refine wpAny_bind (wpAny_newTuple ?_)
  have e4 : IsEnumHeld (g3.push { cls := .type "tuple", data := .seq #[.int i tk, x] }) e it ((i : Int) + 1) old T f := Heap.get?_push_of_some _ e3
  generalize hh4 : g3.push { cls := .type "tuple", data := .seq #[.int i tk, x] } = g4 at e4
  have hsz : g3.objs.size = hp.objs.size := by rw [s3.1, s2.1, s1.1]
  have hel : e < hp.objs.size := Heap.lt_size he
  have t4 : g4.get? hp.objs.size = some { cls := .type "tuple", data := .seq #[.int i tk, x] } := by rw [← hh4, ← hsz]; exact Heap.get?_push_size _ rfl
  have k4 : ∀ b o, b ≠ e → b ≠ it → hp.get? b = some o → g4.get? b = some o := fun b o hbe hbi hb => by
    rw [← hh4]; exact Heap.get?_push_of_some _ (s3.extBut b o hbe (s2.extBut b o hbe (s1.extBut b o hbi hb)))
  have st4 : St (i + 1) g4 := D.frame _ _ _ st1 fun b hb o y => by
    have hbe : b ≠ e := fun q => hef (q ▸ hb)
    rw [← hh4]; exact Heap.get?_push_of_some _ (s3.extBut b o hbe (s2.extBut b o hbe y))
  show wpAny _ _ (Builtin.SmallTypes.ownedTupleIsFree (.ref e) >>= _) _ _ ⟨g4, g, d, tk + 1, os⟩
  rw [hsz]
  refine wpAny_bind (wpAny_tupleHeld_enum (s := ⟨g4, g, d, tk + 1, os⟩) e4 (k4 T oT hTe hTi hT) fun g5 e5 s5 => ?_)
  replace s5 : Heap.SameBut e g4 g5 := s5
  simp only [Bool.false_eq_true, if_false]
  refine wpAny_pure ⟨_, rfl, hQ x g5 tk hPx e5 (D.frame _ _ _ st4 fun b hb o y => s5.extBut b o (fun q => hef (q ▸ hb)) y) (s5.extBut _ _ (Nat.ne_of_gt hel) t4) fun b o hbe hbi hb => s5.extBut b o hbe (k4 b o hbe hbi hb)⟩
theorem enum_heldN {e it T : Addr} {fp : List Addr} {n i : Nat} {Pi : Nat → Value → Prop} {St : Nat → Heap → Prop} {old : Value} {f : Bool} {oT : Obj} {Q : Option Value → Shared → Prop}
    (D : Draws P w A.in1 it fp n Pi St) (he : IsEnumHeld s.heap e it i old T f) (hT : s.heap.get? T = some oT) (hTe : T ≠ e) (hTi : T ≠ it) (hst : St i s.heap) (hlt : i < n) (hne : e ≠ it) (hef : e ∉ fp)
    (hQ : ∀ x h' tk, Pi i x → IsEnumHeld h' e it ((i : Int) + 1) old T true → St (i + 1) h' → h'.get? s.heap.objs.size = some { cls := .type "tuple", data := .seq #[.int i tk, x] } →
      (∀ b o, b ≠ e → b ≠ it → s.heap.get? b = some o → h'.get? b = some o) → Q (some (.ref s.heap.objs.size)) { s with heap := h', toks := tk + 1 }) :
    wpAny (model P w) A (pyNext (.ref e)) Q E s := by
  have hTy : s.TypeIs (.ref e) "enumerate" := ⟨_, he, rfl⟩
  unfold pyNext
  exact wpAny_bind (wpAny_attempt (wpAny_callSpecial?_slot (name := Str.ofString "__next__") hTy F.slot_enumerate_next
    (wpAny_call_entry F.slot_enumerate_next hTy F.entry_enumerate_next
      (enum_held D he hT hTe hTi hst hlt hne hef fun x h' tk a1 a2 a3 a4 a5 => wpAny_pure (hQ x h' tk a1 a2 a3 a4 a5)) (F.args_enumerate_next_1 _))))
theorem enum_endN {e it T : Addr} {fp : List Addr} {n : Nat} {Pi : Nat → Value → Prop} {St : Nat → Heap → Prop} {i : Int} {old : Value} {f : Bool} {Q : Option Value → Shared → Prop}
    (D : Draws P w A.in1 it fp n Pi St) (he : IsEnumHeld s.heap e it i old T f) (hst : St n s.heap)
    (hQ : ∀ h', Heap.ExtBut it s.heap h' → Q none { s with heap := h' }) : wpAny (model P w) A (pyNext (.ref e)) Q E s := by
  have hTy : s.TypeIs (.ref e) "enumerate" := ⟨_, he, rfl⟩
  unfold pyNext
  refine wpAny_bind (wpAny_attempt (wpAny_callSpecial?_slot (name := Str.ofString "__next__") hTy F.slot_enumerate_next
    (wpAny_call_entry F.slot_enumerate_next hTy F.entry_enumerate_next ?_ (F.args_enumerate_next_1 _))))
  show wpAny _ _ (field (.ref e) 2 >>= _) _ _ _
  refine wpAny_bind (wpAny_field he rfl (x := .ref it) rfl ?_)
  refine wpAny_bind (D.done _ _ _ hst fun h' x he' hx' => ?_)
  obtain ⟨o, ho, hc⟩ := hx'
  refine wpAny_bind (wpAny_isInstance (T := "StopIteration") (b := true) ⟨o, ho, hc⟩ isSubtype_stop ?_)
  exact wpAny_pure (hQ _ he')
end
theorem pit_enum : PIt "enumerate" := ⟨by rw [typeLookup_type, builtinLookup_eq_fast]; kernel_rfl, by rw [typeLookup_type, builtinLookup_eq_fast]; kernel_rfl, by decide, by decide⟩
/-- enumerate over what draws, as a source of pairs -/
theorem psrc_enum {P : Program} {w : World} {A : Around} {e it S : Addr} {fp : List Addr} {n : Nat} {Pi : Nat → Value → Prop} {St : Nat → Heap → Prop} (D : Draws P w A.in1 it fp n Pi St) (hne : e ≠ it) (hef : e ∉ fp) (hSe : S ≠ e) (hSi : S ≠ it) (hSf : S ∉ fp) :
    PSrc P w A e S [e, it] n (fun i k v => (∃ t, k = .int (i : Nat) t) ∧ Pi i v) (fun i h => St i h ∧ ((∃ old, IsEnum h e it ((i : Nat) : Int) old) ∨ ∃ old T f oT, IsEnumHeld h e it ((i : Nat) : Int) old T f ∧ h.get? T = some oT ∧ T ≠ e ∧ T ≠ it ∧ T ≠ S ∧ 0 < i)) where
  off := by simp [hSe, hSi]
  frame := fun i h h' st k => by
    obtain ⟨st, he⟩ := st
    refine ⟨D.frame _ _ _ st fun b hb o q => k b o (fun z => hSf (z ▸ hb)) q, ?_⟩
    rcases he with ⟨old, he⟩ | ⟨old, T, f, oT, he, hT, r1, r2, r3, r4⟩
    · exact .inl ⟨old, k _ _ (Ne.symm hSe) he⟩
    · exact .inr ⟨old, T, f, oT, k _ _ (Ne.symm hSe) he, k _ _ r3 hT, r1, r2, r3, r4⟩
  item := fun i s Q E hi hS st hQ => by
    obtain ⟨st, he⟩ := st
    have ec : ((i + 1 : Nat) : Int) = (i : Int) + 1 := by omega
    have nit : s.heap.objs.size ≠ it := let ⟨_, x⟩ := D.live _ _ st; Nat.ne_of_gt (Heap.lt_size x)
    rcases he with ⟨old, he⟩ | ⟨old, T, f, oT, he, hT, r1, r2, r3, r4⟩
    · refine wpAny_pyNext_enum_itemD D he st hi hne hef fun x h' tk hx ho st' hT hsz hk => ?_
      exact hQ _ x h' _ ⟨⟨_, rfl⟩, hx⟩ hT ⟨st', .inr ⟨_, s.heap.objs.size, false, _, by rw [ec]; exact ho, hT, Nat.ne_of_gt (Heap.lt_size he), nit, Nat.ne_of_gt hS, Nat.succ_pos _⟩⟩
        fun b o hb q => hk b o (fun z => hb (by simp [z])) (fun z => hb (by simp [z])) q
    · refine enum_heldN D he hT r1 r2 st hi hne hef fun x h' tk hx ho st' hT' hk => ?_
      exact hQ _ x h' _ ⟨⟨_, rfl⟩, hx⟩ hT' ⟨st', .inr ⟨old, T, true, oT, by rw [ec]; exact ho, hk _ _ r1 r2 hT, r1, r2, r3, Nat.succ_pos _⟩⟩
        fun b o hb q => hk b o (fun z => hb (by simp [z])) (fun z => hb (by simp [z])) q
  done := fun s Q E st hQ => by
    obtain ⟨st, he⟩ := st
    rcases he with ⟨old, he⟩ | ⟨old, T, f, oT, he, hT, r1, r2, r3, r4⟩
    · exact wpAny_pyNext_enum_endD D he st fun h' hk => hQ h' s.toks fun b o hb q => hk b o (fun z => hb (by simp [z])) q
    · exact enum_endN D he st fun h' hk => hQ h' s.toks fun b o hb q => hk b o (fun z => hb (by simp [z])) q
/-! ### new pairs, tracked -/
def putP : Hp → List Addr → List (V × V) → Hp
  | H, a :: as, p :: ps => putP (upd H a (.tup [p.1, p.2])) as ps
  | H, _, _ => H
theorem putP_off {b : Addr} : ∀ (as : List Addr) (ps : List (V × V)) (H : Hp), b ∉ as → putP H as ps b = H b
  | [], _, _, _ => rfl
  | _ :: _, [], _, _ => rfl
  | a :: as, p :: ps, H, h => by
    show putP (upd H a (.tup [p.1, p.2])) as ps b = H b
    rw [putP_off as ps _ (fun z => h (List.mem_cons_of_mem _ z)), upd_ne (fun z => h (by rw [z]; exact List.mem_cons_self))]
theorem putP_at : ∀ (as : List Addr) (ps : List (V × V)) (H : Hp), as.length = ps.length → as.Nodup → Paired (fun (t : Addr) (p : V × V) => putP H as ps t = some (.tup [p.1, p.2])) as ps
  | [], [], _, _, _ => .nil
  | [], _ :: _, _, h, _ => by cases h
  | _ :: _, [], _, h, _ => by cases h
  | a :: as, p :: ps, H, h, hn => by
    have hn' := List.nodup_cons.mp hn
    refine .cons ?_ (putP_at as ps _ (Nat.succ.inj h) hn'.2)
    show putP (upd H a (.tup [p.1, p.2])) as ps a = some (.tup [p.1, p.2])
    rw [putP_off as ps _ hn'.1, upd_same]
/-- the value that list(e) gives -/
def rPairs (ps : List (V × V)) : Hp → VK → Prop := fun H Q => ∀ (H' : Hp) (p : Addr) (ts : List Addr), Ex H H' → H p = none → (∀ t ∈ ts, H t = none) → p ∉ ts → H' p = some (.lst (ts.map V.ref)) → Paired (fun (t : Addr) (q : V × V) => H' t = some (.tup [q.1, q.2])) ts ps → Q (.ref p) H'
theorem pairs_laid {X : Cx} {pins : List (Addr × Obj)} {σ : L2.St} {H : Hp} {s : Shared} {h' : Heap} {tk : Nat} {ps : List (V × V)} {acc : Array Value} {c : Nat} {as : List Addr} {Rel : Nat → Value → Value → Prop} {S : Addr} (I : Inv X pins σ H s) (hz : ps.length ≤ sizeLine) (hSz : s.heap.objs.size ≤ S)
    (hrel : ∀ i k v, Rel i k v → ∃ p, ps[i]? = some p ∧ RelV p.1 k ∧ RelV p.2 v)
    (hk : ∀ b o, s.heap.get? b = some o → h'.get? b = some o) (hS : h'.get? S = some { cls := .type "list", dict := none, data := .seq acc c, slots := #[] }) (hl : as.length = ps.length) (hG : PGot Rel S h' as) (hacc : acc.toList = as.map Value.ref) {Q : VK} (q : rPairs ps H Q) :
    ∃ (H' : Hp), Inv X pins σ H' { s with heap := h', toks := tk } ∧ Q (.ref S) H' := by
  have hSn : S ∉ as := fun z => Nat.lt_irrefl _ (hG.hi _ z)
  have nd : as.Nodup := List.Pairwise.imp (fun {a b} (h : a < b) => Nat.ne_of_lt h) hG.up
  have new : ∀ t ∈ as, H t = none := fun t ht => I.hok.fresh (Nat.le_trans hSz (Nat.le_of_lt (hG.hi t ht)))
  have newS : H S = none := I.hok.fresh hSz
  have atP := putP_at as ps (upd H S (.lst (as.map V.ref))) hl nd
  have off : ∀ b, b ∉ as → b ≠ S → putP (upd H S (.lst (as.map V.ref))) as ps b = H b := fun b h1 h2 => by rw [putP_off as ps _ h1, upd_ne h2]
  have low : ∀ b o, s.heap.get? b = some o → b ∉ as ∧ b ≠ S := fun b o e => ⟨fun z => absurd (Heap.lt_size e) (Nat.not_lt.mpr (Nat.le_trans hSz (Nat.le_of_lt (hG.hi b z)))), fun z => absurd (Heap.lt_size e) (Nat.not_lt.mpr (by rw [z]; exact hSz))⟩
  have kp : Ex H (putP (upd H S (.lst (as.map V.ref))) as ps) := fun b u e => by
    rw [off b (fun z => by rw [new b z] at e; cases e) (fun z => by rw [z, newS] at e; cases e)]
    exact e
  have eS : putP (upd H S (.lst (as.map V.ref))) as ps S = some (.lst (as.map V.ref)) := by rw [putP_off as ps _ hSn, upd_same]
  refine ⟨putP (upd H S (.lst (as.map V.ref))) as ps, ?_, q _ S as kp newS new hSn eS atP⟩
  refine I.call' (ch := []) rfl ⟨fun b o q _ _ _ => hk b o q, fun b o q _ _ _ => ⟨o.slots, hk b o q⟩, fun b o q n _ => ?_, fun b o q _ => ⟨o, hk b o q⟩, fun b xs q => kp b _ q, fun b o u q => kp b _ q, fun b ps q => ⟨#[], by rw [kp b _ q]; simp⟩⟩ (fun b u q => ?_) I.bare fun b z => by simp at z
  · obtain ⟨z1, z2⟩ := low b o q
    rw [off b z1 z2]
    exact n
  · by_cases hb : b ∈ as
    · obtain ⟨j, pk, e1, e2, e3⟩ := LiI.paired_ix atP hb
      rw [e3] at q
      cases q
      obtain ⟨k, x, f1, f3⟩ := hG.at' j b e1
      obtain ⟨p', g1, g2, g3⟩ := hrel j k x f1
      rw [e2] at g1
      cases g1
      exact ⟨by show 2 ≤ sizeLine; decide, [k, x], .cons g2 (.cons g3 .nil), ⟨_, f3, rfl, _, rfl⟩⟩
    · by_cases hb2 : b = S
      · rw [hb2] at q ⊢
        rw [eS] at q
        cases q
        refine ⟨by rw [List.length_map]; omega, acc.toList, c, by rw [hacc]; exact LiI.vals_refs as, ?_⟩
        rw [Array.toArray_toList]
        exact hS
      · rw [off b hb hb2] at q
        exact (I.hok b u q).stay (fun d v _ y => hk d v y) (fun d y => kp d _ y) fun d xs y => kp d _ y
/-! ### list(enumerate(e)), e a tuple -/
def enP : List V → List (V × V) := fun xs => xs.mapIdx fun i x => (V.int (i : Nat), x)
def rListEnum (K : PySem.W.Frag) : List V → Hp → VK → Prop := fun vs H Q => ∃ a xs, vs = [.ref a] ∧ SqT K H a xs ∧ rPairs (enP xs) H Q
def tListEnum (K : PySem.W.Frag) (te : TE) : TE := tCB (rListEnum K) (tCons te tNil)
theorem pe_listEnum {X : Cx} {e : Expr} {te : TE} {p1 p2 pos pos2 : Pos} (hc : X.calm = true) (hgl : Gl X "list") (hml : X.mg "list" = none) (hbl : bootBuiltins "list" = some (.type "list")) (hg : Gl X "enumerate") (hm : X.mg "enumerate" = none) (he : PE X e te)
    (hs : starEach [e] X.env = [(false, eval e X.env)] := by rfl) (hs1 : starEach [e] X.env = (false, eval e X.env) :: starEach [] X.env := by rfl)
    (hs2 : starEach [.Call (.Name "enumerate" p1) [e] [] pos] X.env = (false, eval (.Call (.Name "enumerate" p1) [e] [] pos) X.env) :: starEach [] X.env := by rfl) :
    PE X (.Call (.Name "list" p2) [.Call (.Name "enumerate" p1) [e] [] pos] [] pos2) (tListEnum X.K te) := by
  refine ⟨fun pins s σ H Q I h => ?_⟩
  unfold tListEnum tCB at h
  refine wpAny_Call_Name_kw (ld_blt I hgl hml hbl ?_)
  refine PyProof.Rows.callWith_type1 ?_ hs2 rfl
  rw [hs2]
  show wpAny _ _ (spliced ((false, eval (.Call (.Name "enumerate" p1) [e] [] pos) X.env) :: backTo pos2 (starEach [] X.env))) _ _ s
  refine Calls.spliced_cons ?_
  refine Call_ (ld_blt I hg hm boot_enumerate (PyProof.Rows.callWith_type1 (thn ((L2.pa_cons he L2.pa_nil hs1).run pos pins s σ H _ I h) fun us s1 ⟨vs, H1, I1, r1, q1⟩ => ?_) hs rfl))
  obtain ⟨a, xs, ex, hq, q⟩ := q1
  subst ex
  cases r1 with
  | cons r rr =>
    cases rr
    cases r
    obtain ⟨its, rv, p', hz⟩ := I1.tuple hq
    have ha : a < s1.heap.objs.size := by
      obtain ⟨o, ho, _⟩ := p'
      exact Heap.lt_size ho
    refine enum_begins1 (begins_tuple a its.toArray) p' fun h' heo hit hsz hk => ?_
    have I2 : Inv X pins σ H1 { s1 with heap := h' } := I1.kept (t' := s1.toks) hk
    refine Calls.spliced_nil ?_
    have hlen := rv.length
    have D := Draws.tuple (prog := X.prog) (w := X.w) (A := X.A.in1.in1.in1) (I.ok.hd hc) s1.heap.objs.size a (Nat.ne_of_lt ha) its.toArray
    have hsz' : h'.objs.size = s1.heap.objs.size + 2 := hsz
    have n1 : h'.objs.size ≠ s1.heap.objs.size + 1 := by rw [hsz']; exact Nat.succ_ne_self _
    have n0 : h'.objs.size ≠ s1.heap.objs.size := by rw [hsz']; exact Nat.ne_of_gt (Nat.lt_add_of_pos_right (by decide))
    have na : h'.objs.size ≠ a := by rw [hsz']; exact Nat.ne_of_gt (Nat.lt_of_lt_of_le ha (Nat.le_add_right _ _))
    have m1 : s1.heap.objs.size + 1 < h'.objs.size := by rw [hsz']; exact Nat.lt_succ_self _
    have m0 : s1.heap.objs.size < h'.objs.size := Nat.lt_trans (Nat.lt_succ_self _) m1
    have Z := psrc_enum (P := X.prog) (w := X.w) (A := X.A.in1.in1) (e := s1.heap.objs.size + 1) (S := h'.objs.size) D (Nat.succ_ne_self _) (by simp; exact Nat.ne_of_gt (Nat.lt_succ_of_lt ha)) n1 n0 (by simp; exact ⟨n0, na⟩)
    refine pg_call (s := { s1 with heap := h' }) (W := [s1.heap.objs.size + 1, s1.heap.objs.size]) pit_enum (fun s st => ?_) (fun A s Q E st hq => ?_) Z (by simp) (fun b hb => ?_) (by simp; omega) ⟨⟨⟨_, hit, rfl, rfl⟩, (begins_tuple a its.toArray).keeps _ _ p' hk⟩, .inl ⟨_, heo⟩⟩ fun h2 tk acc c as hk2 hS hl hG hacc => ?_
    · rcases st.2 with ⟨old, he⟩ | ⟨old, T, f, oT, he, _⟩
      · exact ⟨_, he, rfl⟩
      · exact ⟨_, he, rfl⟩
    · rcases st.2 with ⟨old, he⟩ | ⟨old, T, f, oT, he, _, _, _, _, z⟩
      · exact wpAny_pyIter_enum he hq
      · exact absurd z (Nat.lt_irrefl _)
    · have e' : b = s1.heap.objs.size + 1 ∨ b = s1.heap.objs.size := by simpa using hb
      show b < h'.objs.size
      rcases e' with z | z
      · rw [z]; exact m1
      · rw [z]; exact m0
    · have hrel : ∀ i k v, ((∃ t, k = .int (i : Nat) t) ∧ its.toArray[i]? = some v) → ∃ p, (enP xs)[i]? = some p ∧ RelV p.1 k ∧ RelV p.2 v := fun i k v hr => by
        obtain ⟨⟨t, rfl⟩, hv⟩ := hr
        have hv' : its[i]? = some v := by simpa using hv
        have hil := (List.getElem?_eq_some_iff.mp hv').1
        have hx : xs[i]? = some xs[i] := List.getElem?_eq_getElem (by omega)
        obtain ⟨u, hu, rx⟩ := rv.get hx
        rw [hv'] at hu
        cases hu
        exact ⟨(V.int (i : Nat), xs[i]), by simp [enP, hx], ⟨t, rfl⟩, rx⟩
      have hkeep : ∀ b o, s1.heap.get? b = some o → h2.get? b = some o := fun b o e => hk2 b o (fun z => by
        have hlt := Heap.lt_size e
        have e' : b = s1.heap.objs.size + 1 ∨ b = s1.heap.objs.size := by simpa using z
        rcases e' with z | z
        · rw [z] at hlt; exact Nat.lt_irrefl _ (Nat.lt_trans (Nat.lt_succ_self _) hlt)
        · rw [z] at hlt; exact Nat.lt_irrefl _ hlt) (hk b o e)
      have hlp : as.length = (enP xs).length := by
        rw [hl]
        simp [enP]
        omega
      obtain ⟨H', I3, q3⟩ := pairs_laid (X := X) (H := H1) (tk := tk) (s := s1) (h' := h2) (S := h'.objs.size) (ps := enP xs) I1 (by simp [enP]; omega) (Nat.le_of_lt m0) hrel hkeep hS hlp hG hacc q
      exact ⟨.ref _, H', I3, rfl, q3⟩
end Z
set_option Elab.async false
set_option linter.all false
set_option maxRecDepth 100000
set_option maxHeartbeats 1000000
namespace Z
open PySem PySem.Spec PyProof.Rows L2
theorem paired_of {α β : Type} {F : α → β → Prop} : ∀ {xs : List α} {ys : List β}, xs.length = ys.length → (∀ (i : Nat) (x : α) (y : β), xs[i]? = some x → ys[i]? = some y → F x y) → Paired F xs ys
  | [], [], _, _ => .nil
  | [], _ :: _, h, _ => by cases h
  | _ :: _, [], h, _ => by cases h
  | x :: xs, y :: ys, h, k => .cons (k 0 x y rfl rfl) (paired_of (Nat.succ.inj h) fun i a b e f => k (i + 1) a b e f)
section
variable {K : PySem.W.Frag} {bc cs : List Cell} {Γ : List Tv}
theorem ex_hidden {M bs ls : List Addr} {H H' : Hp} {p : Addr} (ex : Ex H H') (n : H p = none) : Ex (hid (ls ++ (bs ++ M)) H) (hid (ls ++ (bs ++ (p :: M))) H') := fun b o e => by
  obtain ⟨a1, a2⟩ := hid_at e
  have nb : b ≠ p := fun z => by rw [z, n] at a2; cases a2
  rw [hid_of fun z => a1 (mem4 nb z)]
  exact ex b o a2
theorem St.hideX {M bs ls : List Addr} {σ : L2.St} {H H' : Hp} {p : Addr} {o : HO} (S : St K bc cs Γ M bs ls σ H) (ex : Ex H H') (n : H p = none) (hp : H' p = some o) (lv : Lv (some o) := by exact lv_lst) : St K bc cs Γ (p :: M) bs ls σ H' := by
  have np := S.new n
  have g := ex_hidden (M := M) (bs := bs) (ls := ls) ex n
  have S2 := S.ex ex
  refine ⟨S2.nd, fun a h z => ?_, fun m h => ?_, S.base.ex g fun a o _ e => ex a o e, S.cell.ex g fun a o _ e => ex a o e, S.env.ex g⟩
  · rcases List.mem_cons.mp z with w | w
    · rw [w] at h
      rcases List.mem_append.mp h with y | y
      · exact np.1 y
      · exact np.2.1 y
    · exact S2.dis a h w
  · rcases List.mem_cons.mp h with w | w
    · rw [w, hp]
      exact lv
    · exact S2.old m w
def twoD (d : PyData × PyData) : PyData := .tuple [d.1, d.2]
theorem pairs_dq {G : Hp} : ∀ {ts : List Addr} {ps : List (V × V)} {ds : List (PyData × PyData)}, Paired (fun (t : Addr) (q : V × V) => G t = some (.tup [q.1, q.2])) ts ps → Paired (fun (q : V × V) (d : PyData × PyData) => Dq K G q.1 d.1 ∧ Dq K G q.2 d.2) ps ds → DqAll K G (ts.map V.ref) (ds.map twoD)
  | _, _, _, .nil, .nil => .nil
  | _, _, _, .cons h t, .cons h' t' => .cons (.tup h (.cons h'.1 (.cons h'.2 .nil))) (pairs_dq t t')
theorem Paired.imp {α β : Type} {F F' : α → β → Prop} (k : ∀ x y, F x y → F' x y) : ∀ {xs : List α} {ys : List β}, Paired F xs ys → Paired F' xs ys
  | _, _, .nil => .nil
  | _, _, .cons h t => .cons (k _ _ h) (Paired.imp k t)
theorem paired_left {α β : Type} {F : α → β → Prop} {A : α → Prop} : ∀ {xs : List α} {ys : List β}, (∀ x, x ∈ xs → A x) → Paired F xs ys → Paired (fun x y => F x y ∧ A x) xs ys
  | _, _, _, .nil => .nil
  | _, _, k, .cons h t => .cons ⟨h, k _ List.mem_cons_self⟩ (paired_left (fun x m => k x (List.mem_cons_of_mem _ m)) t)
theorem rPairs_of {M bs ls : List Addr} {σ : L2.St} {H : Hp} {ps : List (V × V)} {ds : List (PyData × PyData)} (S : St K bc cs Γ M bs ls σ H) (h : Paired (fun (q : V × V) (d : PyData × PyData) => Dq K (hid (ls ++ (bs ++ M)) H) q.1 d.1 ∧ Dq K (hid (ls ++ (bs ++ M)) H) q.2 d.2) ps ds) {Q : VK}
    (k : ∀ vs p H', H p = none → St K bc cs Γ (p :: M) bs ls σ H' → Kp bs ls H H' → H' p = some (.lst vs) → DqAll K (hid (ls ++ (bs ++ (p :: M))) H') vs (ds.map twoD) → Q (.ref p) H') : rPairs ps H Q := fun H' p ts ex n nts pn hp ht => by
  have g := ex_hidden (M := M) (bs := bs) (ls := ls) ex n
  refine k _ p H' n (S.hideX ex n hp) (Kp.of_ex ex) hp (pairs_dq ?_ (Paired.imp (fun q d z => ⟨Dq.ex g _ _ z.1, Dq.ex g _ _ z.2⟩) h))
  refine Paired.imp (F := fun (t : Addr) (q : V × V) => H' t = some (.tup [q.1, q.2]) ∧ (t ∈ ts)) (fun t q z => ?_) (paired_left (fun x m => m) ht)
  have nt := nin (S.new (nts t z.2))
  rw [hid_of fun m => nt (mem4 (fun e => pn (by rw [← e]; exact z.2)) m)]
  exact z.1
theorem enD_two {ds : List PyData} : enD ds = (ds.mapIdx fun i d => ((PyData.int (i : Nat), d) : PyData × PyData)).map twoD := by
  refine List.ext_getElem? fun i => ?_
  unfold enD
  simp only [List.getElem?_map, List.getElem?_mapIdx]
  cases ds[i]? <;> rfl
/-- list(enumerate(e)), e a tuple -/
theorem pf_listEnum {te : TE} {ds : List PyData} (h : Pn K bc cs Γ te (· = .d (.tuple ds))) : Pf K bc cs Γ (tListEnum K te) (· = enD ds) := fun M bs ls σ H S Q q =>
  h M bs ls σ H S _ fun t v H1 ht S1 k1 hv => by
    subst ht
    cases hv with
    | tup hs ha =>
      rename_i a xs
      refine ⟨a, xs, rfl, SqT.of (hid_ex _ _ hs), rPairs_of (ds := ds.mapIdx fun i d => (PyData.int (i : Nat), d)) S1 (paired_of (by simp [enP, DqAll.len ha]) fun i x y e f => ?_) fun vs p H' n S' k' hp hd => ?_⟩
      · unfold enP at e
        rw [List.getElem?_mapIdx, Option.map_eq_some_iff] at e f
        obtain ⟨v, hv, rfl⟩ := e
        obtain ⟨d, hd, rfl⟩ := f
        obtain ⟨d', hd', hq⟩ := DqAll.getV ha hv
        rw [hd] at hd'
        cases hd'
        exact ⟨.int _, hq⟩
      · rw [← enD_two] at hd
        exact q _ vs p H' rfl (k1.free n) S' (k1.trans k') hp hd
end
end Z
set_option Elab.async false
set_option linter.all false
set_option maxRecDepth 100000
set_option maxHeartbeats 1000000
namespace Z
open PySem PySem.Spec PyProof.Rows L2
/-! ### a range draws -/
section
variable {P : Program} {w : World} {A : Around} {E : Value → Shared → Prop} {s : Shared}
theorem rng_item {it : Addr} {x left step : Int} {Q : Value → Shared → Prop} (hit : IsRangeIter s.heap it x left step) (hl : 0 < left)
    (hQ : ∀ h', IsRangeIter h' it (x + step) (left - 1) step → Heap.SameBut it s.heap h' → Q (.int x s.toks) { s with heap := h', toks := s.toks + 1 }) : wpAny (model P w) A (Builtin.SmallTypes.nextOf (.ref it)) Q E s := by
  have hT : s.TypeIs (.ref it) "range_iterator" := ⟨_, hit, rfl⟩
  unfold Builtin.SmallTypes.nextOf
  refine wpAny_bind (wpAny_callSpecial?_slot (name := Str.ofString "__next__") hT F.slot_range_iterator_next
    (call_meets F.slot_range_iterator_next hT F.entry_range_iterator_next (F.args_range_iterator_next_1 _) (AutoRange.range_iterator___next___range_iterator_1 it x left step (by omega)) ⟨hit, ?_⟩))
  exact wpAny_pure (hQ _ (Heap.get?_update_self _ (Heap.get?_update_self _ hit rfl) rfl) ((Heap.SameBut.update ..).trans (Heap.SameBut.update ..)))
theorem rng_end {it : Addr} {x left step : Int} {Q : Value → Shared → Prop} (hh : A.handled = none) (hit : IsRangeIter s.heap it x left step) (hl : left ≤ 0)
    (hE : ∀ h' e, Heap.ExtBut it s.heap h' → (∃ o, h'.get? e = some o ∧ o.cls = .type "StopIteration") → E (.ref e) { s with heap := h' }) : wpAny (model P w) A (Builtin.SmallTypes.nextOf (.ref it)) Q E s := by
  have hT : s.TypeIs (.ref it) "range_iterator" := ⟨_, hit, rfl⟩
  unfold Builtin.SmallTypes.nextOf
  refine wpAny_bind (wpAny_callSpecial?_slot (name := Str.ofString "__next__") hT F.slot_range_iterator_next
    (wpAny_call_entry F.slot_range_iterator_next hT F.entry_range_iterator_next ?_ (F.args_range_iterator_next_1 _)))
  show wpAny _ _ (field (.ref it) 0 >>= _) _ _ s
  refine wpAny_bind (wpAny_field hit rfl (x := rawInt x) rfl ?_)
  show wpAny _ _ (field (.ref it) 1 >>= _) _ _ s
  refine wpAny_bind (wpAny_field hit rfl (x := rawInt left) rfl ?_)
  show wpAny _ _ (field (.ref it) 2 >>= _) _ _ s
  refine wpAny_bind (wpAny_field hit rfl (x := rawInt step) rfl ?_)
  show wpAny _ _ (if left ≤ 0 then _ else _) _ _ s
  rw [if_pos hl]
  refine wpAny_bind (wpAny_rule ?_)
  refine wpAny_bind ?_
  show wpAny _ _ (newExc (.type "StopIteration") [] >>= _) _ _ _
  refine wpAny_bind ?_
  simp only [newExc, newTuple]
  refine wpAny_bind (wpAny_newObj_type ?_ (by size_fits))
  refine wpAny_bind (m := firstArgMember _ _) (wpAny_of_eq (a := Value.none) (by first | rfl | (simp only [firstArgMember]; rfl)) ?_)
  refine wpAny_newObj_type ?_ (by size_fits)
  simp only [raiseNew]
  refine wpAny_bind (wpAny_handled ?_)
  first | rw [show A.in1.handled = none from hh] | rw [hh]
  refine wpAny_bind (wpAny_pure (wpAny_throw ?_))
  exact hE _ _ (((Heap.ExtBut.refl it s.heap).push _).push _) ⟨_, Heap.get?_push_size _ rfl, rfl⟩
end
theorem draws_rng {P : Program} {w : World} {A : Around} (hh : A.handled = none) (it : Addr) (n : Nat) :
    Draws P w A it [it] n (fun i v => ∃ t, v = .int (i : Nat) t) (fun i h => IsRangeIter h it ((i : Nat) : Int) ((n : Int) - (i : Nat)) 1) where
  live := fun _ _ st => ⟨_, st⟩
  frame := fun _ _ _ st hk => hk it (by simp) _ st
  item := fun i s Q E hi st hQ => by
    refine rng_item st (by omega) fun h' hit' hs' => ?_
    refine hQ _ h' _ ⟨_, rfl⟩ ?_ hs'
    have e1 : ((i + 1 : Nat) : Int) = (i : Int) + 1 := by omega
    have e2 : (n : Int) - ((i + 1 : Nat) : Int) = (n : Int) - (i : Int) - 1 := by omega
    rw [e1]
    rw [e1] at e2
    rw [e2]
    exact hit'
  done := fun s Q E st hE => rng_end hh st (by omega) hE
theorem begins_rng (r : Addr) {n : Nat} {t u v : Tok} (hs : Builtin.Range.small 0 n 1 = true) (hn : Builtin.Range.rangeSize 0 n 1 = (n : Int)) : Begins (.ref r) { cls := .type "range_iterator", data := .fields #[rawInt 0, rawInt (n : Int), rawInt 1] } fun h => IsRange h r 0 n 1 t u v where
  iter := fun prog w A E s Q hr h => wpAny_pyIter_range hr hs (by rw [hn]; exact h)
  keeps := fun h h' x hk => hk r _ x
  free := rfl
/-! ### zip, the pair that was given last still there -/
section
variable {P : Program} {w : World} {A : Around} {E : Value → Shared → Prop} {s : Shared} {z TI TO i1 i2 : Addr} {fp1 fp2 : List Addr} {n1 n2 i : Nat} {P1 P2 : Nat → Value → Prop} {St1 St2 : Nat → Heap → Prop} {T : Addr} {f : Bool} {oT : Obj}
theorem zip_held {Q : Value → Shared → Prop} (S : ZipSep2 z TI TO i1 i2 fp1 fp2) (D1 : Draws P w A i1 fp1 n1 P1 St1) (D2 : Draws P w A i2 fp2 n2 P2 St2)
    (hz : IsZipHeld s.heap z TI TO T f) (hT : s.heap.get? T = some oT) (hTI : IsTupOf2 s.heap TI (.ref i1) (.ref i2)) (st1 : St1 i s.heap) (st2 : St2 i s.heap) (hlt1 : i < n1) (hlt2 : i < n2)
    (hQ : ∀ x1 x2 h' tk, P1 i x1 → P2 i x2 → IsZipHeld h' z TI TO T true → St1 (i + 1) h' → St2 (i + 1) h' → IsTupOf2 h' s.heap.objs.size x1 x2 →
      (∀ c o, c ≠ z → c ≠ i1 → c ≠ i2 → s.heap.get? c = some o → h'.get? c = some o) → Q (.ref s.heap.objs.size) { s with heap := h', toks := tk }) :
    wpAny (model P w) A (Builtin.«zip.__next__» ⟨[.ref z], []⟩) (fun fin s' => ∃ v, fin = .done (.ret v) ∧ Q v s') E s := by
  obtain ⟨hp, g, d, tk0, os⟩ := s
  show wpAny _ _ (field (.ref z) 2 >>= _) _ _ _
  refine wpAny_bind (wpAny_field hz rfl (x := .bool false) rfl ?_)
  show wpAny _ _ (field (.ref z) 3 >>= _) _ _ _
  refine wpAny_bind (wpAny_field hz rfl (x := .ref TI) rfl ?_)
  refine wpAny_bind (wpAny_seqItems hTI rfl ?_)
  show wpAny _ _ (Builtin.SmallTypes.ownedTupleIsFree (.ref z) >>= _) _ _ _
  refine wpAny_bind (wpAny_tupleHeld_zip hz hT fun g1 z1 s1 => ?_)
  replace s1 : Heap.SameBut z hp g1 := s1
  simp only [Bool.false_eq_true, if_false]
  refine wpAny_bind ?_
  rw [← Array.forIn_toList]
  simp only [List.forIn_cons, List.forIn_nil]
  refine wpAny_bind (wpAny_bind (wpAny_holding ?_))
  show wpAny _ _ (Builtin.SmallTypes.nextOf (.ref i1) >>= _) _ _ ⟨g1, g, d, tk0, os⟩
  refine wpAny_bind (D1.item i _ _ _ hlt1 (D1.over st1 s1 S.zf1) fun x1 p1 tk1 hx1 sn1 hp1 => wpAny_pure ?_)
  replace hp1 : Heap.SameBut i1 g1 p1 := hp1
  refine wpAny_pure ?_
  refine wpAny_bind (wpAny_bind (wpAny_holding ?_))
  show wpAny _ _ (Builtin.SmallTypes.nextOf (.ref i2) >>= _) _ _ ⟨p1, g, d, tk1, os⟩
  refine wpAny_bind (D2.item i _ _ _ hlt2 (D2.over (D2.over st2 s1 S.zf2) hp1 S.sep1_2) fun x2 p2 tk2 hx2 sn2 hp2 => wpAny_pure ?_)
  replace hp2 : Heap.SameBut i2 p1 p2 := hp2
  refine wpAny_pure (wpAny_pure ?_)
  show wpAny _ _ (newTuple [x1, x2] >>= _) _ _ _
  refine wpAny_bind (wpAny_newTuple ?_)
  have hsz : p2.objs.size = hp.objs.size := by rw [hp2.1, hp1.1, s1.1]
  have zz : IsZipHeld p2 z TI TO T true := hp2.extBut _ _ S.zi2 (hp1.extBut _ _ S.zi1 z1)
  have hk : ∀ c o, c ≠ z → c ≠ i1 → c ≠ i2 → hp.get? c = some o → p2.get? c = some o := fun c o c1 c2 c3 e => hp2.extBut _ _ c3 (hp1.extBut _ _ c2 (s1.extBut _ _ c1 e))
  have hj1 : St1 (i + 1) p2 := D1.over sn1 hp2 S.sep2_1
  refine wpAny_pure ⟨_, rfl, ?_⟩
  show Q (.ref p2.objs.size) ⟨_, g, d, tk2, os⟩
  have ht : IsTupOf2 (p2.push { cls := .type "tuple", data := .seq #[x1, x2] }) p2.objs.size x1 x2 := Heap.get?_push_size _ rfl
  rw [hsz] at ht ⊢
  exact hQ x1 x2 _ tk2 hx1 hx2 (Heap.get?_push_of_some _ zz) (D1.frame _ _ _ hj1 fun b _ o e => Heap.get?_push_of_some _ e) (D2.frame _ _ _ sn2 fun b _ o e => Heap.get?_push_of_some _ e) ht fun c o c1 c2 c3 e => Heap.get?_push_of_some _ (hk c o c1 c2 c3 e)
theorem zip_heldEnd {Q : Fin → Shared → Prop} (S : ZipSep2 z TI TO i1 i2 fp1 fp2) (D1 : Draws P w A i1 fp1 n1 P1 St1) (D2 : Draws P w A i2 fp2 n2 P2 St2)
    (hz : IsZipHeld s.heap z TI TO T f) (hT : s.heap.get? T = some oT) (hTI : IsTupOf2 s.heap TI (.ref i1) (.ref i2)) (st1 : St1 n1 s.heap)
    (hE : ∀ h' tk e, (∀ c o, c ≠ z → c ≠ i1 → c ≠ i2 → s.heap.get? c = some o → h'.get? c = some o) → (∃ o, h'.get? e = some o ∧ o.cls = .type "StopIteration") → E (.ref e) { s with heap := h', toks := tk }) :
    wpAny (model P w) A (Builtin.«zip.__next__» ⟨[.ref z], []⟩) Q E s := by
  obtain ⟨hp, g, d, tk0, os⟩ := s
  show wpAny _ _ (field (.ref z) 2 >>= _) _ _ _
  refine wpAny_bind (wpAny_field hz rfl (x := .bool false) rfl ?_)
  show wpAny _ _ (field (.ref z) 3 >>= _) _ _ _
  refine wpAny_bind (wpAny_field hz rfl (x := .ref TI) rfl ?_)
  refine wpAny_bind (wpAny_seqItems hTI rfl ?_)
  show wpAny _ _ (Builtin.SmallTypes.ownedTupleIsFree (.ref z) >>= _) _ _ _
  refine wpAny_bind (wpAny_tupleHeld_zip hz hT fun g1 z1 s1 => ?_)
  replace s1 : Heap.SameBut z hp g1 := s1
  simp only [Bool.false_eq_true, if_false]
  refine wpAny_bind ?_
  rw [← Array.forIn_toList]
  simp only [List.forIn_cons, List.forIn_nil]
  refine wpAny_bind (wpAny_bind (wpAny_holding ?_))
  show wpAny _ _ (Builtin.SmallTypes.nextOf (.ref i1) >>= _) _ _ ⟨g1, g, d, tk0, os⟩
  refine wpAny_bind (D1.done _ _ _ (D1.over st1 s1 S.zf1) fun h2 e s2 he => ?_)
  exact hE h2 tk0 e (fun c o c1 c2 _ x => s2 _ _ c2 (s1.extBut _ _ c1 x)) he
end
theorem pit_zip : PIt "zip" := ⟨by rw [typeLookup_type, builtinLookup_eq_fast]; kernel_rfl, by rw [typeLookup_type, builtinLookup_eq_fast]; kernel_rfl, by decide, by decide⟩
/-- zip over two that draw alike long, as a source of pairs -/
theorem psrc_zip {P : Program} {w : World} {A : Around} {z TI TO i1 i2 Sx : Addr} {fp1 fp2 : List Addr} {n : Nat} {P1 P2 : Nat → Value → Prop} {St1 St2 : Nat → Heap → Prop} (S : ZipSep2 z TI TO i1 i2 fp1 fp2) (D1 : Draws P w A.in1 i1 fp1 n P1 St1) (D2 : Draws P w A.in1 i2 fp2 n P2 St2)
    (hz : Sx ≠ z) (hTI : Sx ≠ TI) (hTO : Sx ≠ TO) (h1 : Sx ∉ fp1) (h2 : Sx ∉ fp2) :
    PSrc P w A z Sx [z, TO, i1, i2] n (fun i k v => P1 i k ∧ P2 i v) (fun i h => IsTupOf2 h TI (.ref i1) (.ref i2) ∧ St1 i h ∧ St2 i h ∧ ((IsZip h z TI TO .none ∧ ∃ a b, IsTupOf2 h TO a b) ∨ ∃ T f oT, IsZipHeld h z TI TO T f ∧ h.get? T = some oT ∧ T ≠ z ∧ T ≠ i1 ∧ T ≠ i2 ∧ T ≠ Sx ∧ 0 < i)) where
  off := by
    have n1 : Sx ≠ i1 := fun e => h1 (e ▸ S.mem1)
    have n2 : Sx ≠ i2 := fun e => h2 (e ▸ S.mem2)
    simp [hz, hTO, n1, n2]
  frame := fun i h h' st k => by
    obtain ⟨hI, st1, st2, he⟩ := st
    refine ⟨k _ _ (Ne.symm hTI) hI, D1.frame _ _ _ st1 fun b hb o q => k b o (fun e => h1 (e ▸ hb)) q, D2.frame _ _ _ st2 fun b hb o q => k b o (fun e => h2 (e ▸ hb)) q, ?_⟩
    rcases he with ⟨he, a, b, hO⟩ | ⟨T, f, oT, he, hT, r1, r2, r3, r4, r5⟩
    · exact .inl ⟨k _ _ (Ne.symm hz) he, a, b, k _ _ (Ne.symm hTO) hO⟩
    · exact .inr ⟨T, f, oT, k _ _ (Ne.symm hz) he, k _ _ r4 hT, r1, r2, r3, r4, r5⟩
  item := fun i s Q E hi hS st hQ => by
    obtain ⟨hI, st1, st2, he⟩ := st
    have lt : ∀ {c o}, s.heap.get? c = some o → s.heap.objs.size ≠ c := fun e => Nat.ne_of_gt (Heap.lt_size e)
    have l1 : s.heap.objs.size ≠ i1 := by obtain ⟨_, e⟩ := D1.live _ _ st1; exact lt e
    have l2 : s.heap.objs.size ≠ i2 := by obtain ⟨_, e⟩ := D2.live _ _ st2; exact lt e
    rcases he with ⟨he, a, b, hO⟩ | ⟨T, f, oT, he, hT, r1, r2, r3, r4, r5⟩
    · refine wpAny_pyNext_zipD2_item S D1 D2 he hI hO st1 st2 hi hi fun x1 x2 h' tk y1 y2 b1 b2 d1 d2 b5 b6 hk => ?_
      exact hQ x1 x2 h' tk ⟨y1, y2⟩ b5 ⟨hk _ _ S.TIz S.TITO S.TIi1 S.TIi2 hI, d1, d2, .inr ⟨s.heap.objs.size, false, _, b1, b5, lt he, l1, l2, Nat.ne_of_gt hS, Nat.succ_pos _⟩⟩
        fun c o hc e => hk c o (fun x => hc (by simp [x])) (fun x => hc (by simp [x])) (fun x => hc (by simp [x])) (fun x => hc (by simp [x])) e
    · have hTy : s.TypeIs (.ref z) "zip" := ⟨_, he, rfl⟩
      unfold pyNext
      refine wpAny_bind (wpAny_attempt (wpAny_callSpecial?_slot (name := Str.ofString "__next__") hTy F.slot_zip_next
        (wpAny_call_entry F.slot_zip_next hTy F.entry_zip_next (zip_held S D1 D2 he hT hI st1 st2 hi hi fun x1 x2 h' tk y1 y2 b1 d1 d2 b5 hk => wpAny_pure ?_) (F.args_zip_next_1 _))))
      exact hQ x1 x2 h' tk ⟨y1, y2⟩ b5 ⟨hk _ _ S.TIz S.TIi1 S.TIi2 hI, d1, d2, .inr ⟨T, true, oT, b1, hk _ _ r1 r2 r3 hT, r1, r2, r3, r4, Nat.succ_pos _⟩⟩
        fun c o hc e => hk c o (fun x => hc (by simp [x])) (fun x => hc (by simp [x])) (fun x => hc (by simp [x])) e
  done := fun s Q E st hQ => by
    obtain ⟨hI, st1, st2, he⟩ := st
    rcases he with ⟨he, a, b, hO⟩ | ⟨T, f, oT, he, hT, r1, r2, r3, r4, r5⟩
    · exact wpAny_pyNext_zipD2_end S D1 D2 he hI hO st1 st2 (Nat.le_refl _) (Nat.le_refl _) (.inl rfl) fun h' tk hk => hQ h' tk fun c o hc e => hk c o (fun x => hc (by simp [x])) (fun x => hc (by simp [x])) (fun x => hc (by simp [x])) (fun x => hc (by simp [x])) e
    · have hTy : s.TypeIs (.ref z) "zip" := ⟨_, he, rfl⟩
      unfold pyNext
      refine wpAny_bind (wpAny_attempt (wpAny_callSpecial?_slot (name := Str.ofString "__next__") hTy F.slot_zip_next
        (wpAny_call_entry F.slot_zip_next hTy F.entry_zip_next (zip_heldEnd S D1 D2 he hT hI st1 fun h' tk e hk he => ?_) (F.args_zip_next_1 _))))
      obtain ⟨o, ho, hc⟩ := he
      refine wpAny_bind (wpAny_isInstance (T := "StopIteration") (b := true) ⟨o, ho, hc⟩ isSubtype_stop ?_)
      exact wpAny_pure (hQ _ _ fun c o hc e => hk c o (fun x => hc (by simp [x])) (fun x => hc (by simp [x])) (fun x => hc (by simp [x])) e)
end Z
set_option Elab.async false
set_option linter.all false
set_option maxRecDepth 100000
set_option maxHeartbeats 1000000
namespace Z
open PySem PySem.Spec PyProof.Rows L2
/-! ### list(zip(range(a), e)), e a list of a items -/
def tListZipR (K : PySem.W.Frag) (ta te : TE) : TE := fun σ H Q => ta σ H fun x H1 => ∃ n : Nat, x = .int n ∧ n ≤ 1000 ∧ te σ H1 fun y H2 => ∃ l xs, y = .ref l ∧ SqL K H2 l xs ∧ xs.length = n ∧ rPairs (enP xs) H2 Q
theorem pe_listZipR {X : Cx} {a e : Expr} {ta te : TE} {p1 p2 p3 q1 q2 q3 : Pos} (hc : X.calm = true) (hgl : Gl X "list") (hml : X.mg "list" = none) (hbl : bootBuiltins "list" = some (.type "list")) (hgz : Gl X "zip") (hmz : X.mg "zip" = none)
    (hgr : Gl X "range") (hmr : X.mg "range" = none) (ha : PE X a ta) (he : PE X e te)
    (na : starEach [a] X.env = (false, eval a X.env) :: starEach [] X.env := by rfl) (ne : starEach [e] X.env = (false, eval e X.env) :: starEach [] X.env := by rfl)
    (nz : starEach [.Call (.Name "range" p1) [a] [] q1, e] X.env = (false, eval (.Call (.Name "range" p1) [a] [] q1) X.env) :: starEach [e] X.env := by rfl)
    (hpl : (backTo q2 (starEach [e] X.env)).any (·.1) = false := by rfl)
    (nl : starEach [.Call (.Name "zip" p2) [.Call (.Name "range" p1) [a] [] q1, e] [] q2] X.env = (false, eval (.Call (.Name "zip" p2) [.Call (.Name "range" p1) [a] [] q1, e] [] q2) X.env) :: starEach [] X.env := by rfl) :
    PE X (.Call (.Name "list" p3) [.Call (.Name "zip" p2) [.Call (.Name "range" p1) [a] [] q1, e] [] q2] [] q3) (tListZipR X.K ta te) := by
  refine ⟨fun pins s σ H Q I h => ?_⟩
  unfold tListZipR at h
  refine wpAny_Call_Name_kw (ld_blt I hgl hml hbl ?_)
  refine PyProof.Rows.callWith_type1 ?_ nl rfl
  refine args_cons ?_ nl
  refine Call_ (ld_blt I hgz hmz PyProof.Rows.boot_zip (PyProof.Rows.callWith_type1 (args_cons ?_ nz) nz hpl))
  refine Call_ (ld_blt I hgr hmr PyProof.Rows.boot_range (PyProof.Rows.callWith_type1 (one_arg ha I h (fun v s2 x H2 I2 r q => ?_) na) na))
  obtain ⟨n, rfl, hn, q⟩ := q
  obtain ⟨t, rfl⟩ := r
  refine call_range_1 ?_
  have I3 := ClX.pin_new (t' := s2.toks + 1 + 1) (o := { cls := .type "range", data := .fields #[.int 0 s2.toks, .int (n : Int) t, .int 1 (s2.toks + 1)] }) I2 (fun b u e => Heap.get?_push_of_some _ e) (Nat.le_refl _) (Heap.get?_push_size _ rfl) (fun v z => by cases z)
  refine args_cons (thn (he.run _ _ σ _ _ I3 q) fun u s4 ⟨y, H4, I4, r4, q4⟩ => args_nil ?_) ne
  obtain ⟨l, xs, rfl, hq, hlen, q5⟩ := q4
  obtain rfl : u = Value.ref l := r4
  have hr : IsRange s4.heap s2.heap.objs.size 0 n 1 s2.toks t (s2.toks + 1) := ClX.pin_at I4
  have I5 := ClX.unpin I4
  obtain ⟨its, rv, p', hz⟩ := I5.list hq
  have hlr : s2.heap.objs.size < s4.heap.objs.size := Heap.lt_size hr
  have hll : l < s4.heap.objs.size := p'.lt
  have hlen2 := rv.length
  have hsm : Builtin.Range.small 0 n 1 = true := small_one (by omega) (by omega) (by omega) (by omega)
  have hsz0 : Builtin.Range.rangeSize 0 n 1 = (n : Int) := by rw [rangeSize_nat]; omega
  refine zip_begins2 (begins_rng (t := s2.toks) (u := t) (v := s2.toks + 1) s2.heap.objs.size hsm hsz0) (begins_list l its.toArray) hr p'.isList fun h' hzp hTI hTO g1 g2 hsz hk => ?_
  have I6 : Inv X pins σ H4 { s4 with heap := h' } := I5.kept (t' := s4.toks) hk
  refine args_nil ?_
  have D1 := draws_rng (P := X.prog) (w := X.w) (A := X.A.in1.in1.in1) (I.ok.hd hc) s4.heap.objs.size n
  have D2 := Draws.list (prog := X.prog) (w := X.w) (A := X.A.in1.in1.in1) (I.ok.hd hc) (s4.heap.objs.size + 1) l (Nat.ne_of_lt (Nat.lt_succ_of_lt hll)) its.toArray
  have en : its.toArray.size = n := by simp; omega
  rw [en] at D2
  have Sp := zip_sep2 (N := s4.heap.objs.size) (fp1 := []) (fp2 := [l]) (fun b hb => by cases hb) (fun b hb => by rw [List.mem_singleton.mp hb]; exact hll)
  have lt : ∀ b, b < s4.heap.objs.size + 5 → b < h'.objs.size := fun b hb => by rw [hsz]; exact hb
  have ne' : ∀ b, b < s4.heap.objs.size + 5 → h'.objs.size ≠ b := fun b hb => Nat.ne_of_gt (lt b hb)
  have l0 : s4.heap.objs.size < s4.heap.objs.size + 5 := Nat.lt_add_of_pos_right (by decide)
  have l1 : s4.heap.objs.size + 1 < s4.heap.objs.size + 5 := Nat.add_lt_add_left (by decide) _
  have l2 : s4.heap.objs.size + 2 < s4.heap.objs.size + 5 := Nat.add_lt_add_left (by decide) _
  have l3 : s4.heap.objs.size + 3 < s4.heap.objs.size + 5 := Nat.add_lt_add_left (by decide) _
  have l4 : s4.heap.objs.size + 4 < s4.heap.objs.size + 5 := Nat.add_lt_add_left (by decide) _
  have ll5 : l < s4.heap.objs.size + 5 := Nat.lt_trans hll l0
  have Z := psrc_zip (A := X.A.in1.in1) (Sx := h'.objs.size) Sp D1 D2 (ne' _ l4) (ne' _ l2) (ne' _ l3) (by simp; exact ne' _ l0) (by simp; exact ⟨ne' _ l1, ne' _ ll5⟩)
  refine pg_call (s := { s4 with heap := h' }) (W := [s4.heap.objs.size + 4, s4.heap.objs.size + 3, s4.heap.objs.size, s4.heap.objs.size + 1]) pit_zip (fun s st => ?_) (fun A s Q E st hq => ?_) Z (by simp) (fun b hb => ?_) (by rw [sizeLine_eq]; omega) ⟨hTI, ?_, ⟨⟨_, g2, rfl, rfl⟩, (begins_list l its.toArray).keeps _ _ p'.isList hk⟩, .inl ⟨hzp, _, _, hTO⟩⟩ fun h2 tk acc c as hk2 hS hl hG hacc => ?_
  · obtain ⟨_, _, _, he⟩ := st
    rcases he with ⟨he, _⟩ | ⟨T, f, oT, he, _⟩
    · exact ⟨_, he, rfl⟩
    · exact ⟨_, he, rfl⟩
  · obtain ⟨_, _, _, he⟩ := st
    rcases he with ⟨he, _⟩ | ⟨T, f, oT, he, _, _, _, _, _, z⟩
    · exact wpAny_pyIter_zip he hq
    · exact absurd z (Nat.lt_irrefl _)
  · have e' : b = s4.heap.objs.size + 4 ∨ b = s4.heap.objs.size + 3 ∨ b = s4.heap.objs.size ∨ b = s4.heap.objs.size + 1 := by simpa using hb
    show b < h'.objs.size
    rcases e' with z | z | z | z
    · rw [z]; exact lt _ l4
    · rw [z]; exact lt _ l3
    · rw [z]; exact lt _ l0
    · rw [z]; exact lt _ l1
  · show IsRangeIter h' s4.heap.objs.size (((0 : Nat) : Int)) ((n : Int) - ((0 : Nat) : Int)) 1
    have e : (n : Int) - ((0 : Nat) : Int) = n := by omega
    rw [e]
    exact g1
  · have hrel : ∀ (i : Nat) (k v : Value), ((∃ t, k = .int (i : Nat) t) ∧ its.toArray[i]? = some v) → ∃ p, (enP xs)[i]? = some p ∧ RelV p.1 k ∧ RelV p.2 v := fun i k v hr => by
      obtain ⟨⟨t, rfl⟩, hv⟩ := hr
      have hv' : its[i]? = some v := by simpa using hv
      have hil := (List.getElem?_eq_some_iff.mp hv').1
      have hx : xs[i]? = some xs[i] := List.getElem?_eq_getElem (by omega)
      obtain ⟨u, hu, rx⟩ := rv.get hx
      rw [hv'] at hu
      cases hu
      exact ⟨(V.int (i : Nat), xs[i]), by simp [enP, hx], ⟨t, rfl⟩, rx⟩
    have hkeep : ∀ b o, s4.heap.get? b = some o → h2.get? b = some o := fun b o e => hk2 b o (fun z => by
      have hlt := Heap.lt_size e
      have e' : b = s4.heap.objs.size + 4 ∨ b = s4.heap.objs.size + 3 ∨ b = s4.heap.objs.size ∨ b = s4.heap.objs.size + 1 := by simpa using z
      have no : ¬ s4.heap.objs.size ≤ b := Nat.not_le_of_lt hlt
      rcases e' with z | z | z | z
      · exact no (by rw [z]; exact Nat.le_add_right _ _)
      · exact no (by rw [z]; exact Nat.le_add_right _ _)
      · exact no (by rw [z]; exact Nat.le_refl _)
      · exact no (by rw [z]; exact Nat.le_add_right _ _)) (hk b o e)
    have hlp : as.length = (enP xs).length := by
      rw [hl]
      simp [enP]
      omega
    obtain ⟨H', I7, q7⟩ := pairs_laid (X := X) (H := H4) (tk := tk) (s := s4) (h' := h2) (S := h'.objs.size) (ps := enP xs) I5 (by simp [enP]; omega) (Nat.le_of_lt (lt _ l0)) hrel hkeep hS hlp hG hacc q5
    exact ⟨.ref _, H', I7, rfl, q7⟩
section
variable {K : PySem.W.Frag} {bc cs : List Cell} {Γ : List Tv}
/-- list(zip(range(n), e)) -/
theorem pf_listZipR {ta te : TE} {n : Nat} {T : List PyData → Prop} (ha : Pn K bc cs Γ ta (· = .d (iD n))) (hn : n ≤ 1000) (h : Pn K bc cs Γ te (fun t => ∃ ds, ds.length = n ∧ T ds ∧ t = .d (.list ds))) : Pf K bc cs Γ (tListZipR K ta te) (fun l => ∃ ds, T ds ∧ l = enD ds) := fun M bs ls σ H S Q q =>
  ha M bs ls σ H S _ fun t v H1 ht S1 k1 hv => by
    subst ht
    cases hv
    refine ⟨n, rfl, hn, h M bs ls σ H1 S1 _ fun t v H2 ht S2 k2 hv => ?_⟩
    obtain ⟨ds, hl, hT, rfl⟩ := ht
    cases hv with
    | lst hs ha =>
      rename_i a xs
      refine ⟨a, xs, rfl, SqL.of (hid_ex _ _ hs), by rw [DqAll.len ha]; exact hl, rPairs_of (ds := ds.mapIdx fun i d => (PyData.int (i : Nat), d)) S2 (paired_of (by simp [enP, DqAll.len ha]) fun i x y e f => ?_) fun vs p H' n S' k' hp hd => ?_⟩
      · unfold enP at e
        rw [List.getElem?_mapIdx, Option.map_eq_some_iff] at e f
        obtain ⟨v, hv, rfl⟩ := e
        obtain ⟨d, hd, rfl⟩ := f
        obtain ⟨d', hd', hq⟩ := DqAll.getV ha hv
        rw [hd] at hd'
        cases hd'
        exact ⟨.int _, hq⟩
      · rw [← enD_two] at hd
        exact q _ vs p H' ⟨ds, hT, rfl⟩ (k1.free (k2.free n)) S' ((k1.trans k2).trans k') hp hd
end
end Z
set_option Elab.async false
set_option linter.all false
set_option maxRecDepth 100000
set_option maxHeartbeats 1000000
namespace Z
open PySem PySem.Spec PyProof.Rows L2
/-! ### the names that good couples tell -/
theorem prs_ok {m : Nat} {items : List PyData} : ∀ {i : Nat}, i ≤ items.length → (∀ j, j < i → kind m items j = none) → PrOk m (prs m items i)
  | 0, _, _ => ⟨fun p h => (by cases h), List.nodup_nil, List.nodup_nil⟩
  | i + 1, h, k => by
    have ih := prs_ok (i := i) (by omega) fun j hj => k j (by omega)
    have hi : items[i]? = some items[i] := List.getElem?_eq_getElem (by omega)
    have hk := k i (by omega)
    obtain ⟨p, hp⟩ := kind_cpl hi hk
    obtain ⟨_, _, _, _, l1, l2⟩ := cpl_get hp
    rw [prs_succ hi hp]
    unfold kind at hk
    rw [hi] at hk
    dsimp only at hk
    rw [hp] at hk
    dsimp only at hk
    have hb : ((fsts (prs m items i)).contains p.1 || (snds (prs m items i)).contains p.2) = false := by
      cases q : ((fsts (prs m items i)).contains p.1 || (snds (prs m items i)).contains p.2) with
      | false => rfl
      | true => rw [q] at hk; cases hk
    have hb1 := Bool.or_eq_false_iff.mp hb
    exact ih.push l1 l2 (by simpa using hb1.1) (by simpa using hb1.2)
/-- couples that are refused by nothing -/
structure Good (β : List Nat) (ps : List (Nat × Nat)) : Prop where
  ok : PrOk β.length ps
  len : ps.length = β.length
  back : ∀ k, k < ps.length → backOk β ps k = true
theorem due_yes {β : List Nat} {items : List PyData} (h : dueF β items = .none) : Good β (items.filterMap (cplD β.length)) := by
  unfold dueF at h
  cases q : (List.range items.length).find? (fun i => (kind β.length items i).isSome) with
  | some i => rw [q] at h; cases h
  | none =>
    rw [q] at h
    dsimp only at h
    have hk : ∀ j, j < items.length → kind β.length items j = none := fun j hj => by
      have := List.find?_eq_none.mp q j (List.mem_range.mpr hj)
      simpa using this
    have ok := prs_ok (Nat.le_refl _) hk
    rw [prs_all] at ok
    by_cases hl : (items.filterMap (cplD β.length)).length < β.length
    · rw [if_pos hl] at h; cases h
    · rw [if_neg hl] at h
      cases q2 : (List.range (items.filterMap (cplD β.length)).length).find? (fun k => !backOk β (items.filterMap (cplD β.length)) k) with
      | some k => rw [q2] at h; cases h
      | none =>
        have := ok.few
        exact ⟨ok, by omega, fun k hk => by
          have := List.find?_eq_none.mp q2 k (List.mem_range.mpr hk)
          simpa using this⟩
theorem Good.mem {β : List Nat} {ps : List (Nat × Nat)} (g : Good β ps) {n : Nat} (h : n < β.length) : n ∈ fsts ps := nodup_full g.ok.n1 (fun y hy => by
  obtain ⟨p, hp, rfl⟩ := List.mem_map.mp hy
  exact (g.ok.lt p hp).1) (by simp [fsts, g.len]) h
theorem Good.at' {β : List Nat} {ps : List (Nat × Nat)} (g : Good β ps) {n : Nat} (h : n < β.length) : ∃ p, ps[(fsts ps).idxOf n]? = some p ∧ p.1 = n ∧ nmOf ps n = p.2 ∧ (fsts ps).idxOf n < ps.length := by
  have hi := List.idxOf_lt_length_iff.mpr (g.mem h)
  have hl : (fsts ps).length = ps.length := by simp [fsts]
  have hi' : (fsts ps).idxOf n < ps.length := by omega
  have e : ps[(fsts ps).idxOf n]? = some ps[(fsts ps).idxOf n] := List.getElem?_eq_getElem hi'
  obtain ⟨b1, b2⟩ := bk_fst e
  refine ⟨_, e, ?_, by unfold nmOf; rw [b2], hi'⟩
  rw [← b1]
  unfold bk
  rw [List.getD_eq_getElem?_getD, List.getElem?_eq_getElem hi]
  exact List.getElem_idxOf hi
def nmL (β : List Nat) (ps : List (Nat × Nat)) : List Nat := (List.range β.length).map (nmOf ps)
theorem bk_nmL {β : List Nat} {ps : List (Nat × Nat)} {n : Nat} (h : n < β.length) : bk (nmL β ps) n = nmOf ps n := by
  unfold bk nmL
  rw [List.getD_eq_getElem?_getD, range_map_at h]
  rfl
theorem Good.lt {β : List Nat} {ps : List (Nat × Nat)} (g : Good β ps) {n : Nat} (h : n < β.length) : nmOf ps n < β.length := by
  obtain ⟨p, hp, _, e, _⟩ := g.at' h
  rw [e]
  exact (g.ok.lt p (List.mem_of_getElem? hp)).2
theorem Good.nam {β : List Nat} {ps : List (Nat × Nat)} (bl : Bks β) (g : Good β ps) : nmL β ps ∈ namings β := by
  refine nam_iff.mpr ⟨map_row (fun i h => g.lt h) fun i j hi hj e => ?_, (kp_map bl fun i h => g.lt h).mpr fun t ht => ?_⟩
  · obtain ⟨p, hp, e1, e2, _⟩ := g.at' hi
    obtain ⟨q, hq, f1, f2, _⟩ := g.at' hj
    have hs : (snds ps)[(fsts ps).idxOf i]? = some p.2 := by unfold snds; rw [List.getElem?_map, hp]; rfl
    have ht : (snds ps)[(fsts ps).idxOf j]? = some q.2 := by unfold snds; rw [List.getElem?_map, hq]; rfl
    have : p.2 = q.2 := by omega
    rw [← this] at ht
    obtain ⟨hi2, hs2⟩ := List.getElem?_eq_some_iff.mp hs
    obtain ⟨hj2, ht2⟩ := List.getElem?_eq_some_iff.mp ht
    have e3 := (List.getElem_inj (h₀ := hi2) (h₁ := hj2) g.ok.n2).mp (hs2.trans ht2.symm)
    rw [e3, hq] at hp
    cases hp
    omega
  · obtain ⟨p, hp, e1, e2, e3⟩ := g.at' ht
    have hb := g.back _ e3
    unfold backOk at hb
    obtain ⟨b1, b2⟩ := bk_fst hp
    rw [b1, b2, e1] at hb
    rw [e2]
    exact of_decide_eq_true hb
section
variable {P : Program} {w : World} {K : PySem.W.Frag} {bc cs : List Cell} {Γ : List Tv} {E : XK} {N : List Cell → List Cell → List Tv → Prop} {R : List Cell → Rv → Prop} {X : Xv → Prop} {mg : Str → Option Value}
/-! ### Book.renamed_ties -/
structure RtI where
  β : List Nat
  B : T3 → Bool
  d : PyData
  bl : Bks β
  few : ∀ l, itemsD d = some l → l.length ≤ 100
abbrev rtTs (K : PySem.W.Frag) : RtI → List Tv := fun x => [.sem (bookS K x.β x.B), tvA x.d]
abbrev rtR (K : PySem.W.Frag) : RtI → Rv → Prop := fun x r => ∃ l, itemsD x.d = some l ∧ dueF x.β l = .none ∧ r = .tv (.sem (bookS K x.β (ren x.β (nmL x.β (l.filterMap (cplD x.β.length))) x.B)))
abbrev rtX (K : PySem.W.Frag) : RtI → Xv → Prop := fun x v => ∃ k s, dueP x.β x.d = .tuple [iD k, .str s] ∧ v = bbX K k s
abbrev spRt (K : PySem.W.Frag) : Sp := ProX K [] (rtTs K) (rtR K) (rtX K)
theorem tr_Book_renamed_ties (T : Ty K mg P) (x : RtI) : Tr K [] [] (rtTs K x ++ List.replicate 4 .any) E (t_Book_renamed_ties K E (spNo K) (spBk K)) (fun b _ _ => b = [] ∧ rtR K x (.tv (.d .none))) (fun b r => b = [] ∧ rtR K x r) (rtX K x) := by
  obtain ⟨β, B, d, bl, few⟩ := x
  have hfew := bar_few (B := B) bl
  refine tr_seq (tr_asgX (T := fun t => ∃ l, itemsD d = some l ∧ dueF β l = .none ∧ t = .sem (dkS (l.filterMap (cplD β.length)))) (pnx_call (⟨β, d, bl, few⟩ : NoI) (qa_cons (pn_bTies T.toTx (ps (s := bookS K β B) rfl)) (qa_cons (pv_A (d := d) rfl) qa_nil)) (fun t m => by
    simp at m
    rcases m with rfl | rfl
    · trivial
    · exact tvA_pur d) (fun r ⟨l, h1, h2, h3⟩ => by
    rw [h3]
    exact ⟨trivial, l, h1, h2, rfl⟩) fun v hv => hv) ?_)
  rintro t ⟨l, hl, hdue, rfl⟩
  have g := due_yes hdue
  have hr := g.nam bl
  have hrow := nam_row hr
  generalize hps : l.filterMap (cplD β.length) = qs at g hr hrow
  refine tr_retS (s := bookS K β (ren β (nmL β qs) B)) ?_ ⟨rfl, l, hl, hdue, by rw [hps]⟩
  refine pn_make (⟨β, (barL β.length B).map (nu (nmL β qs)), bl, ren_ok hrow⟩ : ThsI) (qa_cons (pn_bTies T.toTx (ps (s := bookS K β B) rfl)) (qa_cons (Pf.pd ?_) qa_nil)) (fun t m => by simp at m; rcases m with rfl | rfl <;> trivial)
  refine pf_lc (T := (· = barD β.length B)) (si_seqT (pn_bBar T.toTx (ps (s := bookS K β B) rfl))) (fun _ j acc => acc = (((barL β.length B).map (nu (nmL β qs))).map tD).take j) (fun _ _ => by simp) (fun ds' j acc e a => by
    rw [a, List.length_take, List.length_map, List.length_map]
    omega) ?_ ?_
  · rintro ds' j y rfl hd
    obtain ⟨t, ht, rfl⟩ := ts_at hd
    have hin := (bar_mem.mp (List.mem_of_getElem? ht)).1
    refine ⟨_, _, tg_3, fun x hx => hx, (· = true), qt_yes, fun _ => ?_, fun e => by cases e⟩
    have hg : ∀ {i n : Nat}, n < β.length → ([Tv.sem (bookS K β B), tvA d, .sem (dkS qs), .d (iD t.1), .d (iD t.2.1), .d (iD t.2.2)] : List Tv)[i]? = some (.d (iD n)) → Pn K [] [] [Tv.sem (bookS K β B), tvA d, .sem (dkS qs), .d (iD t.1), .d (iD t.2.1), .d (iD t.2.2)] (tDGet (tVar 2) (tVar i)) (· = .d (iD (bk (nmL β qs) n))) := by
      intro i n hn hi
      rw [bk_nmL hn]
      exact pn_dsGet (ps (s := dkS qs) rfl) (pd hi) (g.mem hn)
    refine Pn.mono (T := (· = .d (tD (nu (nmL β qs) t)))) (pn_t3 (hg (i := 3) hin.1 rfl) (hg (i := 4) hin.2.1 rfl) (hg (i := 5) hin.2.2 rfl)) fun u e => ⟨_, e, fun acc a => ?_⟩
    rw [a]
    refine (take_succ ?_).symm
    rw [List.getElem?_map, List.getElem?_map, ht]
    rfl
  · rintro ds' acc rfl e
    rw [e, List.take_of_length_le]
    unfold barD
    simp
end
end Z
set_option Elab.async false
set_option linter.all false
set_option maxRecDepth 100000
set_option maxHeartbeats 1000000
namespace Z
open PySem PySem.Spec PyProof.Rows L2
/-! ### couples made of a naming -/
structure Cps (β r : List Nat) (ts : List Nat) (items : List PyData) : Prop where
  bl : Bks β
  nam : r ∈ namings β
  nd : ts.Nodup
  lt : ∀ t, t ∈ ts → t < β.length
  full : ts.length = β.length
  len : items.length = ts.length
  at' : ∀ (i : Nat) (t : Nat), ts[i]? = some t → ∃ d, items[i]? = some d ∧ cplD β.length d = some (t, bk r t)
section
variable {β r ts : List Nat} {items : List PyData}
theorem Cps.get (h : Cps β r ts items) {i : Nat} (hi : i < items.length) : ∃ t, ts[i]? = some t ∧ ∃ d, items[i]? = some d ∧ cplD β.length d = some (t, bk r t) := by
  have hi2 : i < ts.length := by rw [← h.len]; exact hi
  have e : ts[i]? = some ts[i] := List.getElem?_eq_getElem hi2
  exact ⟨_, e, h.at' i _ e⟩
theorem Cps.prs (h : Cps β r ts items) : ∀ {i : Nat}, i ≤ items.length → prs β.length items i = (ts.take i).map fun t => (t, bk r t)
  | 0, _ => rfl
  | i + 1, hi => by
    obtain ⟨t, ht, d, hd, hc⟩ := h.get (i := i) (by omega)
    rw [prs_succ hd hc, h.prs (by omega), take_succ ht, List.map_append]
    rfl
theorem fsts_cp (l : List Nat) : fsts (l.map fun t => (t, bk r t)) = l := by
  unfold fsts
  rw [List.map_map]
  exact List.map_id' l
theorem snds_cp (l : List Nat) : snds (l.map fun t => (t, bk r t)) = l.map (bk r) := by
  unfold snds
  rw [List.map_map]
  rfl
theorem not_take {l : List Nat} {i t : Nat} (nd : l.Nodup) (h : l[i]? = some t) : t ∉ l.take i := fun m => by
  obtain ⟨j, hj⟩ := List.mem_iff_getElem?.mp m
  have hj2 := (List.getElem?_eq_some_iff.mp hj).1
  rw [List.length_take] at hj2
  rw [List.getElem?_take_of_lt (by omega)] at hj
  obtain ⟨a, ha⟩ := List.getElem?_eq_some_iff.mp hj
  obtain ⟨b, hb⟩ := List.getElem?_eq_some_iff.mp h
  have := (List.getElem_inj (h₀ := a) (h₁ := b) nd).mp (ha.trans hb.symm)
  omega
theorem Cps.kind (h : Cps β r ts items) {i : Nat} (hi : i < items.length) : kind β.length items i = none := by
  obtain ⟨t, ht, d, hd, hc⟩ := h.get hi
  have hrow := nam_row h.nam
  unfold Z.kind
  rw [hd]
  dsimp only
  rw [hc]
  dsimp only
  rw [h.prs (Nat.le_of_lt hi), fsts_cp, snds_cp]
  have n1 := not_take h.nd ht
  have n2 : bk r t ∉ (ts.take i).map (bk r) := fun m => by
    obtain ⟨u, hu, e⟩ := List.mem_map.mp m
    have hu' := h.lt u (List.mem_of_mem_take hu)
    have ht' := h.lt t (List.mem_of_getElem? ht)
    have := row_inj hrow hu' ht' e
    rw [this] at hu
    exact n1 hu
  rw [if_neg]
  simp only [List.contains_eq_mem, Bool.or_eq_true, decide_eq_true_eq]
  rintro (z | z)
  · exact n1 z
  · exact n2 z
theorem Cps.fm (h : Cps β r ts items) : items.filterMap (cplD β.length) = ts.map fun t => (t, bk r t) := by
  rw [← prs_all, h.prs (Nat.le_refl _), h.len, List.take_length]
theorem Cps.mem (h : Cps β r ts items) {n : Nat} (hn : n < β.length) : n ∈ ts := nodup_full h.nd h.lt h.full hn
theorem Cps.nm (h : Cps β r ts items) {n : Nat} (hn : n < β.length) : nmOf (items.filterMap (cplD β.length)) n = bk r n := by
  have hi := List.idxOf_lt_length_iff.mpr (h.mem hn)
  unfold nmOf
  rw [h.fm, fsts_cp, snds_cp]
  unfold bk
  rw [List.getD_eq_getElem?_getD, List.getElem?_map, List.getElem?_eq_getElem hi, List.getElem_idxOf hi]
  rfl
theorem Cps.due (h : Cps β r ts items) : dueF β items = .none := by
  rw [due_good fun j hj => h.kind hj]
  have hl : (items.filterMap (cplD β.length)).length = β.length := by rw [h.fm, List.length_map, h.full]
  rw [if_neg (by omega), find_range_none]
  intro k hk
  rw [hl] at hk
  have hk2 : k < ts.length := by rw [h.full]; exact hk
  have e : ts[k]? = some ts[k] := List.getElem?_eq_getElem hk2
  have ht := h.lt _ (List.getElem_mem hk2)
  have hb := (nam_row h.nam)
  have hkp := kp_iff.mp (nam_iff.mp h.nam).2 _ ht
  have f1 : bk (fsts (items.filterMap (cplD β.length))) k = ts[k] := by
    rw [h.fm, fsts_cp]
    exact bk_get hk2
  have f2 : bk (snds (items.filterMap (cplD β.length))) k = bk r ts[k] := by
    rw [h.fm, snds_cp, bk_get (by rw [List.length_map]; exact hk2), List.getElem_map]
  have hβ : bk β ts[k] < β.length := h.bl.lt _ ht
  have f3 := h.nm hβ
  unfold nmOf at f3
  unfold backOk
  rw [f1, f2, f3, hkp]
  simp
theorem row_ext {m : Nat} {f : Nat → Nat} {r : List Nat} (hl : r.length = m) (h : ∀ n, n < m → f n = bk r n) : (List.range m).map f = r := by
  refine List.ext_getElem (by simp [hl]) fun i h1 h2 => ?_
  rw [List.getElem_map, List.getElem_range, h i (by rw [← hl]; exact h2), bk_get h2]
theorem Cps.nmL (h : Cps β r ts items) : nmL β (items.filterMap (cplD β.length)) = r := row_ext (nam_row h.nam).1 fun n hn => h.nm hn
end
/-- the couples (t, name of t), in their turn -/
theorem cps_range {β r : List Nat} (bl : Bks β) (hr : r ∈ namings β) : Cps β r (List.range β.length) ((List.range r.length).map fun t => .tuple [iD t, iD (bk r t)]) := by
  have hrow := nam_row hr
  refine ⟨bl, hr, List.nodup_range, fun t h => List.mem_range.mp h, List.length_range, by simp [hrow.1], fun i t h => ?_⟩
  obtain ⟨h1, h2⟩ := List.getElem?_eq_some_iff.mp h
  rw [List.length_range] at h1
  rw [List.getElem_range] at h2
  subst h2
  refine ⟨_, range_map_at (by rw [hrow.1]; exact h1), ?_⟩
  have g1 : goodE β.length (iD i) = true := by simp [goodE, h1]
  have g2 : goodE β.length (iD (bk r i)) = true := by simp [goodE, row_lt hrow h1]
  show (if (goodE β.length (iD i) && goodE β.length (iD (bk r i))) = true then some (natD (iD i), natD (iD (bk r i))) else none) = _
  rw [g1, g2]
  rfl
end Z
set_option Elab.async false
set_option linter.all false
set_option maxRecDepth 100000
set_option maxHeartbeats 1000000
namespace Z
open PySem PySem.Spec PyProof.Rows L2
section
variable {P : Program} {w : World} {K : PySem.W.Frag} {bc cs : List Cell} {Γ : List Tv} {E : XK} {N : List Cell → List Cell → List Tv → Prop} {R : List Cell → Rv → Prop} {X : Xv → Prop} {mg : Str → Option Value}
/-! ### _check_alike, books over the same ties -/
abbrev sameTs (K : PySem.W.Frag) : DbI → List Tv := fun x => [.sem (bookS K x.β x.B), .sem (bookS K x.β x.B2)]
abbrev chaR : DbI → Rv → Prop := fun _ r => r = .tv (.d .none)
abbrev spChA (K : PySem.W.Frag) : Sp := Pro K [] (sameTs K) chaR
theorem tup_neI {a b : List Nat} : PyData.eqv (.tuple (isD a)) (.tuple (isD b)) = decide (a = b) := by
  have na : ∀ a : List Nat, nb (.tuple (isD a)) = true := fun a => by simpa [nb] using nb_is a
  cases q : decide (a = b) with
  | true => rw [of_decide_eq_true q]; exact eqv_self (na b)
  | false =>
    refine eqv_ne (na a) (na b) fun e => ?_
    injection e with e
    refine (of_decide_eq_false q) ?_
    unfold isD at e
    exact List.map_inj_right (fun x y h => by
      injection h with h
      omega) |>.mp e
theorem qt_alike (T : Tx K mg) {ta tb : TE} {β β2 : List Nat} {B B2 : T3 → Bool} (h : Pn K bc cs Γ ta (· = .sem (bookS K β B))) (g : Pn K bc cs Γ tb (· = .sem (bookS K β2 B2))) : Pt K bc cs Γ (tTest (tOp (rNeD K) (tFld K (tFld K ta "ties") "backs") (tFld K (tFld K tb "ties") "backs"))) (· = !decide (β = β2)) := by
  rw [← tup_neI]
  exact qt_of (pd_op (pn_ties T (pn_bTies T h)) (pn_ties T (pn_bTies T g)) (ro_ne ((fl_isT _).sh (by decide)) ((fl_isT _).sh (by decide))))
theorem tr_check_alike (T : Tx K mg) (x : DbI) : Trp K [] E (t_check_alike K E) 0 (sameTs K) chaR x := by
  refine tr_if (qt_alike T (ps (s := bookS K x.β x.B) rfl) (ps (s := bookS K x.β x.B2) rfl)) (fun e => by simp at e) fun _ => tr_next ⟨rfl, rfl⟩
/-! ### .. over other ties -/
structure ObI where
  β : List Nat
  β2 : List Nat
  B : T3 → Bool
  B2 : T3 → Bool
  ne : β ≠ β2
abbrev othTs (K : PySem.W.Frag) : ObI → List Tv := fun x => [.sem (bookS K x.β x.B), .sem (bookS K x.β2 x.B2)]
/-- OtherTies is raised -/
def ProO {ι : Type} (K : PySem.W.Frag) (ts : ι → List Tv) : Sp := fun vs H Q E => ∃ i M, St K [] [] (ts i) M [] [] (vs.map some) H ∧ ∀ H', Ex H H' → E (.ref (He.ga K "OtherTies")) none H'
theorem ProO.len {ι : Type} {ts : ι → List Tv} {n : Nat} (hn : ∀ i, (ts i).length = n) {vs : List V} {H : Hp} {Q : VK} {E : XK} (h : ProO K ts vs H Q E) : vs.length = n := by
  obtain ⟨i, M, S, _⟩ := h
  have := S.env.len
  rw [List.length_map, hn i] at this
  exact this
abbrev spChO (K : PySem.W.Frag) : Sp := ProO K (othTs K)
theorem run_check_other (T : Tx K mg) {vs : List V} {H : Hp} {Q : VK} (h : spChO K vs H Q E) : t_check_alike K E { nx := fun _ H' => Q .non H', rt := Q } (L2.start ["one", "other"] vs) H := by
  obtain ⟨x, M, S, k⟩ := h
  have S0 := S.start (Ns := ["one", "other"]) (n := 0) rfl
  refine qt_alike T (ps (s := bookS K x.β x.B) rfl) (ps (s := bookS K x.β2 x.B2) rfl) M [] [] _ H S0 _ fun b H1 hb S1 k1 => ?_
  have : b = true := by rw [hb]; simpa using x.ne
  rw [if_pos this]
  exact k H1 k1.ex0
/-! ### same_up_to_names -/
theorem few_cpl {β r : List Nat} (bl : Bks β) (hr : r ∈ namings β) : ∀ l, itemsD (cpl r) = some l → l.length ≤ 100 := fun l h => by
  cases h
  rw [List.length_map, List.length_range, (nam_row hr).1]
  have := bl.hi
  omega
/-- one.renamed_ties(couples of a naming) -/
theorem pn_renamed {te ta : TE} {β r ts : List Nat} {B : T3 → Bool} {d : PyData} {l : List PyData} (hd : itemsD d = some l) (c : Cps β r ts l) (h : Pn K bc cs Γ te (· = .sem (bookS K β B))) (g : Pn K bc cs Γ ta (· = .d d)) :
    Pn K bc cs Γ (tMeth (He.ga K "Book") "renamed_ties" (spRt K) [] E te (tCons ta tNil)) (· = .sem (bookS K β (ren β r B))) := by
  have hl : ∀ l', itemsD d = some l' → l'.length ≤ 100 := fun l' h' => by
    rw [hd] at h'
    cases h'
    rw [c.len, c.full]
    have := c.bl.hi
    omega
  have hA := tvA_it hd
  refine PnX.of (pnx_meth (T := (· = .sem (bookS K β (ren β r B)))) (tl := [.d d]) (⟨β, B, d, c.bl, hl⟩ : RtI) h (by kernel_rfl) (qa_cons g qa_nil) (by show [Tv.sem (bookS K β B), tvA d] = _; rw [hA]; rfl) (fun t m => by simp at m; rw [m]; trivial) (fun rr hr => ?_) fun x hx => ?_)
  · obtain ⟨l', h1, h2, h3⟩ := hr
    have h1' : itemsD d = some l' := h1
    rw [hd] at h1'
    cases h1'
    rw [h3]
    refine ⟨trivial, ?_⟩
    show Tv.sem (bookS K β (ren β (nmL β (l.filterMap (cplD β.length))) B)) = _
    rw [c.nmL]
  · obtain ⟨k, s, h1, h2⟩ := hx
    have h1' : dueP β d = .tuple [iD k, .str s] := h1
    unfold dueP at h1'
    rw [hd] at h1'
    dsimp only at h1'
    rw [c.due] at h1'
    cases h1'
abbrev sunR : DbI → Rv → Prop := fun x r => r = .tv (.d (dueD x.β x.B x.B2))
abbrev spSun (K : PySem.W.Frag) : Sp := Pro K [] (sameTs K) sunR
theorem pn_names (T : Tx K mg) {te : TE} {β : List Nat} (bl : Bks β) (h : Pn K bc cs Γ te (· = .sem (tiesS K β))) : Pn K bc cs Γ (tCall (spAn K) [] E (tCons te tNil)) (· = .d (.list ((namings β).map rowT))) :=
  pn_lst (pn_call (T := (· = .sem (sLst K ((namings β).map rowT)))) (⟨β, bl⟩ : BksI) (qa_cons h qa_nil) (fun t m => by simp at m; rw [m]; trivial) fun r e => by
    have e' : r = .fr ((namings β).map rowT) := e
    rw [e']; rfl)
theorem tr_same_up_to_names (T : Tx K mg) (x : DbI) : Trp K [] E (t_same_up_to_names K E (spChA K) (spAn K) (spBeq K) (spRt K)) 4 (sameTs K) sunR x := by
  obtain ⟨β, B, B2, bl, cl, cl2⟩ := x
  have hm := bl.hi
  refine tr_seq (tr_drop (T := (· = .d .none)) (pn_call (⟨β, B, B2, bl, cl, cl2⟩ : DbI) (qa_cons (ps rfl) (qa_cons (ps rfl) qa_nil)) (fun t m => by simp at m; rcases m with rfl | rfl <;> trivial) fun r e => by rw [e]; exact ⟨trivial, rfl⟩) fun _ _ => ?_)
  refine tr_seq (tr_for (T := (· = (namings β).map rowT)) (si_seqL (pn_names T bl (pn_bTies T (ps (s := bookS K β B) rfl)))) (fun _ i b c γ => b = [] ∧ c = [] ∧ Wk γ [.sem (bookS K β B), .sem (bookS K β B2), .any, .any, .any, .any] ∧ ∀ r, r ∈ (namings β).take i → hit β B B2 r = false) (fun ds e => ⟨rfl, rfl, Wk.refl _, fun r m => by simp at m⟩) ?_ ?_)
  · rintro ds i d b c γ rfl hd ⟨rfl, rfl, hw, hn⟩
    obtain ⟨r, hr, rfl⟩ := map_at hd
    have hnam := List.mem_of_getElem? hr
    have hrow := nam_row hnam
    refine ⟨_, _, tg_name, tr_wk (wk_set hw) ?_⟩
    refine tr_seq (tr_set (t := .d (cpl r)) ?_ ?_)
    · refine pn_tupL (ds := (List.range r.length).map fun t => .tuple [iD t, iD (bk r t)]) (Pf.pd ?_) (.d _)
      refine pf_lc (T := (· = enD (isD r))) (si_enumT (pd rfl)) (fun _ j acc => acc = ((List.range r.length).map fun t => .tuple [iD t, iD (bk r t)]).take j) (fun _ _ => by simp) (fun ds' j acc e a => by
        rw [a, List.length_take, List.length_map, List.length_range, hrow.1]
        omega) ?_ ?_
      · rintro ds' j y rfl hy
        obtain ⟨x, hx, rfl⟩ := enD_get hy
        obtain ⟨hj, rfl⟩ := isD_get hx
        refine ⟨_, _, tg_2, fun x hx => hx, (· = true), qt_yes, fun _ => ?_, fun e => by cases e⟩
        refine Pn.mono (T := (· = .d (.tuple [iD j, iD (bk r j)]))) (pn_tup (ds := [iD j, iD (bk r j)]) (qa_cons (pd rfl) (qa_cons (pd rfl) qa_nil)) (by simp)) fun u e => ⟨_, e, fun acc a => ?_⟩
        rw [a]
        exact (take_succ (range_map_at hj)).symm
      · rintro ds' acc rfl e
        rw [e, List.take_of_length_le]
        rw [enD_len, isD_len]
        simp
    · have hv : beqV ((β, ren β r B), (β, B2)) = hit β B B2 r := by
        show (decide (β = β) && decide (barL β.length (ren β r B) = barL β.length B2)) = _
        rw [decide_eq_true rfl, Bool.true_and]
        rfl
      refine tr_if (b := hit β B B2 r) (qt_of ?_) (fun hb => tr_retD (x := cpl r) (pd rfl) ⟨rfl, ?_⟩) fun hb => tr_next ⟨rfl, rfl, ⟨.inr rfl, .inr rfl, .inl rfl, .inl rfl, .inr rfl, .inr rfl, trivial⟩, fun r' m => ?_⟩
      · rw [← hv]
        exact pn_ownEq ((β, ren β r B), (β, B2)) (pn_renamed (l := (List.range r.length).map fun t => .tuple [iD t, iD (bk r t)]) rfl (cps_range bl hnam) (ps (s := bookS K β B) rfl) (pd (x := cpl r) rfl)) (ps (s := bookS K β B2) rfl) rfl fun r e => e
      · show _ = Rv.tv (.d (dueD β B B2))
        unfold dueD
        rw [find_take hr hn hb]
      · rw [take_succ hr] at m
        rcases List.mem_append.mp m with q | q
        · exact hn r' q
        · rw [List.mem_singleton.mp q]; exact hb
  · rintro ds b c γ rfl ⟨rfl, rfl, hw, hn⟩
    rw [List.length_map, List.take_length] at hn
    refine tr_wk hw (tr_retD (x := .none) pc_non ⟨rfl, ?_⟩)
    show _ = Rv.tv (.d (dueD β B B2))
    unfold dueD
    rw [List.find?_eq_none.mpr (by intro x hx; rw [hn x hx]; simp)]
abbrev spSunO (K : PySem.W.Frag) : Sp := ProO K (othTs K)
theorem run_same_other {sp1 sp2 sp3 : Sp} {vs : List V} {H : Hp} {Q : VK} (h : spSunO K vs H Q E) : t_same_up_to_names K E (spChO K) sp1 sp2 sp3 { nx := fun _ H' => Q .non H', rt := Q } (L2.start ["one", "other", "names", "pairs", "place", "name"] vs) H := by
  obtain ⟨x, M, S, k⟩ := h
  have S0 := S.start (Ns := ["one", "other", "names", "pairs", "place", "name"]) (n := 4) rfl
  unfold t_same_up_to_names tSeq tDrop tCall
  refine (qa_cons (ps (i := 0) (s := bookS K x.β x.B) rfl) (qa_cons (ps (i := 1) (s := bookS K x.β2 x.B2) rfl) qa_nil)) M [] [] _ H S0 _ fun ts vs H1 e S1 k1 hv => ?_
  subst e
  rw [List.append_nil]
  exact ⟨x, _, S1.callee0 (fun t m => by simp at m; rcases m with rfl | rfl <;> trivial) hv, fun H' ex => k H' (Ex.trans k1.ex0 ex)⟩
end
end Z
set_option Elab.async false
set_option linter.all false
set_option maxRecDepth 100000
set_option maxHeartbeats 4000000
namespace Z
open PySem PySem.Spec PyProof.Rows L2
open StX (tStar pa_star)
theorem sc_least_book : FnScope ["book", "best", "names", "renamed"] ["book"] (defScope s_least_book) := ⟨rfl, rfl, rfl, by decide +kernel, rfl, by decide +kernel, by decide +kernel⟩
def t_least_book (K : PySem.W.Frag) (sp_all_names sp_Book_renamed_ties : Sp) : TS :=
    (tSeq (tAsg (tVar 0) (gName 1))
    (tSeq (tFor (iSeq K (tCall sp_all_names [] E0 (tCons (tFld K (tVar 0) "ties") tNil))) (gName 2)
    (tSeq (tAsg (tMeth (He.ga K "Book") "renamed_ties" sp_Book_renamed_ties [] E0 (tVar 0) (tCons (tListEnum K (tVar 2)) tNil)) (gName 3))
    (tIfS (tTest (tOp (rLtD K) (tFld K (tVar 3) "barred") (tFld K (tVar 1) "barred")))
    (tAsg (tVar 3) (gName 1))
    tNext)))
    (tRet (tVar 1))))
theorem ok_least_book {P : Program} {w : World} {K : PySem.W.Frag} {mg : Str → Option Value} {base : Heap} (T : Ty K mg P) {sp_all_names sp_Book_renamed_ties : Sp} (C_all_names : Cal P w K mg base CX0 4 "_all_names" ["ties"] sp_all_names) (C_Book_renamed_ties : CalM P w K mg base (L2.CX P w) 9 "Book" "renamed_ties" ["self", "pairs"] sp_Book_renamed_ties) {sp : Sp} (hl : ∀ vs H Q E, sp vs H Q E → vs.length = 1)
    (tr : ∀ vs H Q E, sp vs H Q E → t_least_book K sp_all_names sp_Book_renamed_ties { nx := fun _ H' => Q .non H', rt := Q } (L2.start ["book", "best", "names", "renamed"] vs) H) :
    Cal P w K mg base CX0 10 "least_book" ["book"] sp := by
  obtain ⟨fd, F⟩ := T.F_least_book
  have b : Binds K fd ["book"] [] := F.bindsN fun _ _ _ _ _ _ us hl => match us, hl with | [_], _ => rfl
  refine ⟨⟨fd, ?_, b⟩, F.kp, T.g_least_book⟩
  refine FunD.ok F sc_least_book hl fun cdv A outer s H vs Q E hr h => ⟨_, PSs.nox ?_, tr vs H Q E h⟩
  have hr_all_names : Room 4 _ := hr.mono (by decide)
  have hr_Book_renamed_ties : Room 9 _ := hr.mono (by decide)
  have hu64 := hr.units
  have hu65 := hu65_of hr
  unfold t_least_book
  exact (pss_cons (ps_set (i := 1) sc_least_book.nd rfl (by first | exact Or.inl rfl | exact Or.inr rfl) (pv 0))
    (pss_cons (ps_for PassesOwn.never rfl (pi_seq (pe_cal C_all_names hr_all_names (by rfl) pass0 (pa_cons (pe_fld (pv 0) rfl) pa_nil))) (pg_name (i := 2) sc_least_book.nd rfl (by first | exact Or.inl rfl | exact Or.inr rfl)) (pss_cons (ps_set (i := 3) sc_least_book.nd rfl (by first | exact Or.inl rfl | exact Or.inr rfl) (pe_calM C_Book_renamed_ties T.c_Book hr_Book_renamed_ties passL (pv 0) (pa_cons (pe_listEnum rfl (by rfl) T.f_list (by decide +kernel) (by rfl) T.f_enumerate (pv 2)) pa_nil)))
    (pss_one (ps_if (pt_cmpR (op_ltD hu65) (pe_fld (pv 3) rfl) (pe_fld (pv 1) rfl) (nomark _)) (pss_one (ps_set (i := 1) sc_least_book.nd rfl (by first | exact Or.inl rfl | exact Or.inr rfl) (pv 3))) pss_nil))))
    (pss_one (ps_ret (pv 1)))))
end Z
set_option Elab.async false
set_option linter.all false
set_option maxRecDepth 100000
set_option maxHeartbeats 1000000
namespace Z
open PySem PySem.Spec PyProof.Rows L2
section
variable {P : Program} {w : World} {K : PySem.W.Frag} {bc cs : List Cell} {Γ : List Tv} {E : XK} {N : List Cell → List Cell → List Tv → Prop} {R : List Cell → Rv → Prop} {X : Xv → Prop} {mg : Str → Option Value}
/-! ### least_book -/
theorem ro_ltTs {a b : List T3} : Ro K bc cs Γ (rLtD K) (.d (tsD a)) (.d (tsD b)) (· = .d (.bool (ltL a b))) := ro_val fun M bs ls σ H x y S hx hy Q q => by
  refine ⟨tsD a, tsD b, Dq.ex hid_ex _ _ hx, Dq.ex hid_ex _ _ hy, alike_ts a b, fun e => (by cases e), Nat.le_trans (fl_tsT a).2 (by decide), ?_⟩
  rw [dataLt_ts]
  exact q _ (.bl _)
abbrev leTs (K : PySem.W.Frag) : WoI → List Tv := fun x => [.sem (bookS K x.β x.B)]
abbrev leR (K : PySem.W.Frag) : WoI → Rv → Prop := fun x r => ∃ B', barL x.β.length B' = leastL x.β x.B ∧ r = .tv (.sem (bookS K x.β B'))
abbrev spLeast (K : PySem.W.Frag) : Sp := Pro K [] (leTs K) (leR K)
/-- the couples as list(enumerate(..)) gives them -/
theorem cps_enum {β r : List Nat} (bl : Bks β) (hr : r ∈ namings β) : Cps β r (List.range β.length) (enD (isD r)) := by
  have hrow := nam_row hr
  have h := cps_range bl hr
  refine ⟨bl, hr, h.nd, h.lt, h.full, by rw [enD_len, isD_len, hrow.1, List.length_range], fun i t hi => ?_⟩
  obtain ⟨h1, h2⟩ := List.getElem?_eq_some_iff.mp hi
  rw [List.length_range] at h1
  rw [List.getElem_range] at h2
  subst h2
  obtain ⟨d, hd, hc⟩ := h.at' i i hi
  rw [range_map_at (by rw [hrow.1]; exact h1)] at hd
  cases hd
  exact ⟨_, enD_at (isD_at (by rw [hrow.1]; exact h1)), hc⟩
theorem minL_snoc (x y : List T3) (xs : List (List T3)) : minL x (xs ++ [y]) = if ltL y (minL x xs) = true then y else minL x xs := by
  unfold minL
  rw [List.foldl_append]
  rfl
theorem tr_least_book (T : Tx K mg) (x : WoI) : Trp K [] E (t_least_book K (spAn K) (spRt K)) 3 (leTs K) (leR K) x := by
  obtain ⟨β, B, bl, cl⟩ := x
  have hm := bl.hi
  refine tr_seq (tr_set (ps (s := bookS K β B) rfl) ?_)
  refine tr_seq (tr_for (T := (· = (namings β).map rowT)) (si_seqL (pn_names T bl (pn_bTies T (ps (s := bookS K β B) rfl)))) (fun _ i b c γ => b = [] ∧ c = [] ∧ ∃ B', Wk γ [.sem (bookS K β B), .sem (bookS K β B'), .any, .any] ∧ barL β.length B' = minL (barL β.length B) ((orb β B).take i)) (fun ds e => ⟨rfl, rfl, B, Wk.refl _, rfl⟩) ?_ ?_)
  · rintro ds i d b c γ rfl hd ⟨rfl, rfl, B', hw, hB⟩
    obtain ⟨r, hr, rfl⟩ := map_at hd
    have hnam := List.mem_of_getElem? hr
    have horb : (orb β B)[i]? = some (barL β.length (ren β r B)) := by
      unfold orb
      rw [List.getElem?_map, hr]
      rfl
    refine ⟨_, _, tg_name, tr_wk (wk_set hw) ?_⟩
    refine tr_seq (tr_set (t := .sem (bookS K β (ren β r B))) (pn_renamed (l := enD (isD r)) (d := .list (enD (isD r))) rfl (cps_enum bl hnam) (ps (s := bookS K β B) rfl) (pf_listEnum (pd (x := rowT r) rfl)).pd) ?_)
    refine tr_if (qt_of (pd_op (pn_bBar T (ps (s := bookS K β (ren β r B)) rfl)) (pn_bBar T (ps (s := bookS K β B') rfl)) ro_ltTs)) (fun hb => ?_) fun hb => tr_next ?_
    · refine tr_set (ps (s := bookS K β (ren β r B)) rfl) ⟨rfl, rfl, ren β r B, ⟨.inr rfl, .inr rfl, .inl rfl, .inl rfl, trivial⟩, ?_⟩
      rw [take_succ horb, minL_snoc, ← hB, if_pos hb]
    · refine ⟨rfl, rfl, B', ⟨.inr rfl, .inr rfl, .inl rfl, .inl rfl, trivial⟩, ?_⟩
      rw [take_succ horb, minL_snoc, ← hB, if_neg (by rw [hb]; simp)]
  · rintro ds b c γ rfl ⟨rfl, rfl, B', hw, hB⟩
    refine tr_wk hw (tr_retS (s := bookS K β B') (ps rfl) ⟨rfl, B', ?_, rfl⟩)
    show barL β.length B' = leastL β B
    rw [hB, List.take_of_length_le]
    · rfl
    · unfold orb
      rw [List.length_map, List.length_map]
      exact Nat.le_refl _
end
end Z
set_option Elab.async false
set_option linter.all false
set_option maxRecDepth 100000
set_option maxHeartbeats 4000000
namespace Z
open PySem PySem.Spec PySem.Calls PyProof.Rows
open PySem.W
/-! ### isinstance(e, C), e an error that may have a dict -/
theorem find_dataO {K : Frag} {C : Addr} {od : Option Obj} {name : Str} {a g : Value} (hc : (clsIn K C).isSome = true) (ha : findIn K (.ref C) name = some (some a)) (hg : specialIn K a "__get__" = some (some g)) (ht : takesIn K a = some true) : findObj K C od name = some (.bind g a) := by
  obtain ⟨cd, hc⟩ := Option.isSome_iff_exists.mp hc
  unfold findObj
  rw [hc, Option.bind_some, ha, Option.bind_some]
  simp [hg, ht]
section
variable {prog : Program} {w : World} {A : Around} {E : Value → Shared → Prop} {s : Shared} {K : Frag} {x D : Addr} {ox : Obj} {od : Option Obj}
theorem class_ofE {Q : Option Value → Shared → Prop} (c : L2.ExcC K D) (X : K.In s.heap) (I : InstAt s.heap x ox D od) (h : Q (some (.ref D)) { s with toks := s.toks + 1 }) : wpAny (model prog w) A (getAttr? (.ref x) "__class__") Q E s := by
  have hf : findObj K D od "__class__" = some (.bind (.builtin "getset_descriptor.__get__") (.builtin "object.__class__")) := find_dataO (by obtain ⟨cd, hc, _⟩ := any_some c.hd; rw [hc]; rfl) c.ha c.hn c.ht
  obtain ⟨hp, g, d, t, os⟩ := s
  have L0 := I.type (M := model prog w)
  have L1 := looks_findIn (M := model prog w) X c.hg
  have L2 := looks_findIn (M := model prog w) X c.hk
  have L3 := looks_find (M := model prog w) X I hf
  have sub : Looks (model prog w) hp (isInstance (.ref x) (.type "BaseException")) true := L0.andThen (looks_subIn X c.hs)
  have z0 : (false && onTheHeap (Value.builtin "BaseException.__getattribute__")) = false := rfl
  have z2 : (Value.builtin "BaseException.__getattribute__" == Value.builtin "object.__getattribute__") = false := by decide +kernel
  have z1 : (onTheHeap (Value.ref D) && Value.builtin "BaseException.__getattribute__" == Value.builtin "object.__getattribute__") = false := by rw [z2]; rfl
  unfold getAttr? getAttrBy? getAttrBy
  refine wpAny_bind (wpAny_mkText (wpAny_bind (wpAny_attempt (wpAny_holding (wpAny_bind (L0.at (wpAny_bind (L1.at ?_))))))))
  show wpAny _ _ (if (onTheHeap (Value.ref D) && Value.builtin "BaseException.__getattribute__" == Value.builtin "object.__getattribute__") = true then _ else _) _ _ _
  rw [z1, if_neg Bool.false_ne_true]
  unfold getAttrByItsOwn hookBefore
  refine wpAny_bind ?_
  rw [if_pos (show onTheHeap (Value.ref D) = true from rfl)]
  refine L2.at ?_
  refine wpAny_bind (wpAny_attempt (wpAny_holding ?_))
  unfold callGetattribute
  rw [z0, if_neg Bool.false_ne_true]
  unfold boundAndCalled
  rw [PySem.F.excAttr_ValueError.ga.bind (.ref x)]
  refine wpAny_bind (wpAny_pure ?_)
  show wpAny _ _ (call (.builtin "BaseException.__getattribute__") [.ref x, .str "__class__" t]) _ _ _
  refine wpAny_call (codeAny_call_builtin PySem.F.excAttr_ValueError.ga.plain PySem.F.entry_bexc_ga ?_)
  refine @check_slot (model prog w) _ _ ⟨hp, g, d, t + 1, os⟩ "BaseException.__getattribute__" "BaseException" "__getattribute__" (.ref x) [.str "__class__" t] [] _ (by decide +kernel) (by decide +kernel) sub (PySem.F.args_bexc_ga (.ref x) (.str "__class__" t)) ?_
  unfold Builtin.«object.__getattribute__»
  refine wpAny_bind (wpAny_of_eq (a := ((Value.ref x : Value), [Value.str "__class__" t])) (by first | rfl | (simp only [slotArgs]; rfl)) ?_)
  refine wpAny_bind (wpAny_pure (wpAny_bind (L0.at (wpAny_bind (L3.at ?_)))))
  show wpAny _ _ (holding [Value.builtin "object.__class__"] (call (.builtin "getset_descriptor.__get__") [.builtin "object.__class__", .ref x, .ref D]) >>= ret) _ _ _
  refine wpAny_bind (wpAny_holding (wpAny_call (class_get (s := ⟨hp, g, d, t + 1, os⟩) (ox := ox) (od := od) X I c.hm ?_)))
  refine wpAny_pure ?_
  show wpAny _ _ (handedOut (.ref D)) _ _ _
  rw [handedOut_of (v := .ref D) rfl]
  first
    | exact wpAny_pure (wpAny_pure h)
    | exact wpAny_pure h
    | exact wpAny_pure (wpAny_bind (wpAny_pure (wpAny_pure h)))
theorem kit_ofE (c : L2.ExcC K D) : KitX K (.ref x) (.ref D) (fun h => InstAt h x ox D od) where
  ty := fun _ _ _ I => I.type
  it := fun M h X _ => by
    obtain ⟨cd, hc, _⟩ := any_some c.hd
    unfold clsIn at hc
    split at hc
    · rename_i ho
      intro A' Q' E' s' k q
      unfold isType loadHead
      exact wpAny_bind (wpAny_loadPart (k _ _ (X _ _ ho)) (wpAny_pure q))
    · cases hc
  ne := (handS_kitx_exc (x := x) (ox := ox) c.hg c.hk c.hs c.hd c.ha c.hn c.ht c.hm).ne
  ca := fun X I k => class_ofE c X I k
end
end Z
set_option Elab.async false
set_option linter.all false
set_option maxRecDepth 100000
set_option maxHeartbeats 2000000
namespace Z
open PySem PySem.Spec PyProof.Rows L2
/-! ### calls in a try -/
section
variable {X : Cx} {CX : CXT} {k : Nat} {C : Addr} {fd : FuncData} {ps : List Str} {sp : Sp} {E : L2.St → XK} {x m : Str} {p pos apos : Pos} {e o : Expr} {es : List Expr} {ta : TE} {t : TA}
theorem pe_calS (c : Cal X.prog X.w X.K X.mg X.base CX k x ps sp) (hr : Room k X.A) (hg : Gl X x) (hx : ∀ σ, PassesAt CX X σ (E σ)) (ha : PA X (e :: es) t) (hdb : (x == ("__debug__" : Str)) = false := by decide)
    (he : starEach (e :: es) X.env = (false, eval e X.env) :: starEach es X.env := by rfl) (hpl : (backTo pos (starEach es X.env)).any (·.1) = false := by rfl) : PE X (.Call (.Name x p) (e :: es) [] pos) (tCallS sp E t) := by
  obtain ⟨fd, F, b⟩ := c.ex
  exact pe_callS F hr hg c.g c.kp b hx ha hdb he hpl
/-- o.m(..), what it raises is told at the slots as they stand -/
def tMthE (C : Addr) (m : Str) (sp : Sp) (E : L2.St → XK) (ta : TE) (t : TA) : TE := fun σ H Q => ta σ H fun x H1 => ∃ a dx fs, x = .ref a ∧ H1 a = some (.ins C dx fs) ∧ fs.lookup m = none ∧ t σ H1 fun vs H2 => sp (x :: vs) H2 Q (E σ)
theorem pe_calMS {pl : Sem Bool} (M : CalM X.prog X.w X.K X.mg X.base CX k x m ps sp) (c : Cls X.K (He.ga X.K x)) (hr : Room k X.A) (hx : ∀ σ, PassesAt CX X σ (E σ)) (he : PE X o ta) (ha : PA X (e :: es) t)
    (hst : starEach (e :: es) X.env = (false, eval e X.env) :: starEach es X.env := by rfl) (hpl : (backTo pos (starEach es X.env)).any (·.1) = false := by rfl)
    (ht : eval (.Call (.Attribute o m apos) (e :: es) [] pos) X.env = (do
      let ov ← eval o X.env
      standAt apos.atName
      let (f, first) ← holding [ov] (getMethod ov m pl)
      callWith pos f first (backTo pos (starEach (e :: es) X.env)) (backToKw pos (keywordEach [] X.env))) := by rfl) :
    PE X (.Call (.Attribute o m apos) (e :: es) [] pos) (tMthE (He.ga X.K x) m sp E ta t) := by
  obtain ⟨fd, F, b⟩ := M.ex
  refine ⟨fun pins s σ H Q I h => ?_⟩
  refine PySem.W.methodCall_KW (pl := pl) (thn (he.run pins s σ H _ I h) fun u s1 ⟨x, H1, I1, rx, a, dx, fs, ex, ea, l, q⟩ => ?_) ht
  subst ex
  obtain rfl : u = Value.ref a := rx
  refine getmeth_ok I1 ea c M.m l ?_
  refine PySem.W.callWith_K (first := [.ref a]) (h₀ := X.base) I.ok.mod.kin M.m.kp (thn (ha.run pos pins s1 σ H1 _ I1 q) fun us s2 ⟨vs, H2, I2, r, q2⟩ => ⟨I2.kIn, ?_⟩) hst hpl
  exact run_fnS (us := .ref a :: us) (vs := .ref a :: vs) F hr b (hx σ) I2 (.cons rfl r) q2
end
/-! ### the error in the suite -/
def rIsX (K : PySem.W.Frag) (D a : Addr) (cls : Value) (d : Option Addr) : List V → Hp → VK → Prop := fun xs H Q => ∃ (c : V) (cv : Value) (b : Bool), xs = [.ref a, c] ∧ (∀ u, RelV c u → u = cv) ∧ cls = .ref D ∧ PySem.W.kitOne K (.ref D) cv = some b ∧
  (d = none ∨ ∃ dd fs, d = some dd ∧ H dd = some (.xd fs)) ∧ Q (.bl b) H
theorem call_isX {X : Cx} {a D : Addr} {oe : Obj} {cls : Value} {d : Option Addr} {pn : List (Addr × Obj)} (C : ExcC X.K D) (hz : Zc cls d oe) (hf : ∃ vs, oe.data = .fields vs) : CallR (X.suite a ((a, oe) :: pn)) (.builtin "isinstance") (rIsX X.K D a cls d) := by
  intro pins s σ H xs us Q I r h
  obtain ⟨c, cv, b, rfl, hcv, ec, e, hd, q⟩ := h
  cases r with
  | cons rx rr =>
    cases rr with
    | cons rt rr =>
      cases rr
      cases rx
      have ecv := hcv _ rt
      subst ecv
      subst ec
      obtain ⟨hget, _⟩ := I.pin (a, oe) (List.mem_append.mpr (.inl List.mem_cons_self))
      obtain ⟨vs, hv⟩ := hf
      have J : ∃ od, PySem.W.InstAt s.heap a oe D od := by
        rcases hd with rfl | ⟨dd, fs, rfl, ea⟩
        · exact ⟨none, hget, hz.1, by unfold PySem.W.notCls; rw [hv] <;> rfl, by rw [hz.2]; trivial⟩
        · have hx : ObjOk X.prog X.w H s.heap dd (.xd fs) := I.hok dd _ ea
          obtain ⟨mA, hns, _⟩ := hx
          obtain ⟨od, ho, _⟩ := lookIn_ns hns
          exact ⟨some od, hget, hz.1, by unfold PySem.W.notCls; rw [hv] <;> rfl, by rw [hz.2]; exact ho⟩
      obtain ⟨od, J⟩ := J
      exact PySem.W.kia_one (kit_ofE C) I.kIn J e (fun z => nomatch z) fun tk => ⟨.bl b, H, I.kept (t' := tk) fun _ _ z => z, rfl, q⟩
/-- what a clause and its suite ask of an error class -/
structure ErrIs (K : PySem.W.Frag) (C G : Addr) : Prop where
  c : ExcC K C
  xf : XfC K C
  exm : PySem.W.exmOne K (.ref C) (.ref C) = some true
  kit : PySem.W.kitOne K (.ref C) (.ref G) = some true
structure Tz (K : PySem.W.Frag) (mg : Str → Option Value) (P : Program) : Prop extends Ty K mg P where
  bbE : ErrIs K (He.ga K "BadBook") (He.ga K "GuestError")
  otE : ErrIs K (He.ga K "OtherTies") (He.ga K "GuestError")
/-- try: .. except C as e (slot i): .. -/
def tTryAs (K : PySem.W.Frag) (c : Value) (i : Nat) (tb : WX → TS) (ts : Addr → Value → Option Addr → TS) : TS := fun D σ H => tb (wAs K c i ts (fun _ _ _ _ => False) D) D σ H
end Z
set_option Elab.async false
set_option linter.all false
set_option maxRecDepth 100000
set_option maxHeartbeats 4000000
namespace Z
open PySem PySem.Spec PyProof.Rows L2
open StX (tStar pa_star)
theorem sc_law_refusal : FnScope ["_law_book_here", "_law_pairs", "e"] ["_law_book_here", "_law_pairs"] (defScope s_law_refusal) := ⟨rfl, rfl, rfl, by decide +kernel, rfl, by decide +kernel, by decide +kernel⟩
def t_law_refusal (K : PySem.W.Frag) (sp_Book_renamed_ties : Sp) : TS :=
    (tSeq (tTryAs K (.ref (He.ga K "BadBook")) 2 (fun W => tDrop (tMthE (He.ga K "Book") "renamed_ties" sp_Book_renamed_ties (WE W) (tVar 0) (tCons (tVar 1) tNil)))
    (fun a cls d => (tIfS (tAnd (tB (tCB (rIsX K (He.ga K "BadBook") a cls d) (tCons (tVar 2) (tCons (tC (.ref (He.ga K "GuestError"))) tNil)))) (tNot (tB (tCB (rIsi K) (tCons (tXf a cls d (He.ga K "BadBook") "index" (tVar 2)) (tCons (tC (.ty "bool")) tNil))))))
    (tRet (tTup (tCons (tXf a cls d (He.ga K "BadBook") "index" (tVar 2)) (tCons (tXf a cls d (He.ga K "BadBook") "what" (tVar 2)) tNil))))
    tNext)))
    (tRet (tC .non)))
theorem ok_law_refusal {P : Program} {w : World} {K : PySem.W.Frag} {mg : Str → Option Value} {base : Heap} (T : Tz K mg P) {sp_Book_renamed_ties : Sp} (C_Book_renamed_ties : CalM P w K mg base (L2.CX P w) 9 "Book" "renamed_ties" ["self", "pairs"] sp_Book_renamed_ties) {sp : Sp} (hl : ∀ vs H Q E, sp vs H Q E → vs.length = 2)
    (tr : ∀ vs H Q E, sp vs H Q E → t_law_refusal K sp_Book_renamed_ties { nx := fun _ H' => Q .non H', rt := Q } (L2.start ["_law_book_here", "_law_pairs", "e"] vs) H) :
    Cal P w K mg base CX0 10 "_law_refusal" ["_law_book_here", "_law_pairs"] sp := by
  obtain ⟨fd, F⟩ := T.F_law_refusal
  have b : Binds K fd ["_law_book_here", "_law_pairs"] [] := F.bindsN fun _ _ _ _ _ _ us hl => match us, hl with | [_, _], _ => rfl
  refine ⟨⟨fd, ?_, b⟩, F.kp, T.g_law_refusal⟩
  refine FunD.ok F sc_law_refusal hl fun cdv A outer s H vs Q E hr h => ⟨_, PSs.nox ?_, tr vs H Q E h⟩
  have hr_Book_renamed_ties : Room 9 _ := hr.mono (by decide)
  have hu64 := hr.units
  unfold t_law_refusal
  exact (pss_cons (ps_try_as (i := 2) (tb := fun W => tDrop (tMthE (He.ga K "Book") "renamed_ties" sp_Book_renamed_ties (WE W) (tVar 0) (tCons (tVar 1) tNil))) (ts := fun a cls d => (tIfS (tAnd (tB (tCB (rIsX K (He.ga K "BadBook") a cls d) (tCons (tVar 2) (tCons (tC (.ref (He.ga K "GuestError"))) tNil)))) (tNot (tB (tCB (rIsi K) (tCons (tXf a cls d (He.ga K "BadBook") "index" (tVar 2)) (tCons (tC (.ty "bool")) tNil))))))
    (tRet (tTup (tCons (tXf a cls d (He.ga K "BadBook") "index" (tVar 2)) (tCons (tXf a cls d (He.ga K "BadBook") "what" (tVar 2)) tNil))))
    tNext)) (Wout := fun _ _ _ _ => False) rfl rfl sc_law_refusal.nd rfl rfl ⟨rfl, by decide, Or.inl T.g_BadBook⟩ takes0
      (fun W pn xe tk _ => pss_one (ps_expr (pe_calMS C_Book_renamed_ties T.c_Book hr_Book_renamed_ties (fun σ => passAt tk σ) (pv 0) (pa_cons (pv 1) pa_nil))))
      (fun a oe cls d pn hz hf => (pss_one (ps_if (PW.pt (pw_and (pt_val (pe_callB (call_isX T.bbE.c hz hf) (by rfl) T.f_isinstance PyProof.Rows.boot_isinstance (pa_cons (pv 2) (pa_cons (pe_glob (by rfl) T.g_GuestError (by rfl)) pa_nil)))) (pw_and1 (pt_not (pt_val (pe_callB call_isi (by rfl) T.f_isinstance PyProof.Rows.boot_isinstance (pa_cons (pe_xf T.bbE.xf T.bb1 hz hf (pv 2)) (pa_cons (pe_bltn (v := .ty "bool") (u := .type "bool") (by rfl) T.f_bool (by decide +kernel) (by rfl)) pa_nil)))))))) (pss_one (ps_ret (pe_tup (pa_cons (pe_xf T.bbE.xf T.bb1 hz hf (pv 2)) (pa_cons (pe_xf T.bbE.xf T.bb2 hz hf (pv 2)) pa_nil))))) pss_nil))))
    (pss_one (ps_ret pe_non)))
theorem sc_law_refusals_right : FnScope ["_law_hand_here", "_law_book_here", "_law_backs_here", "_law_many", "_law_pairs", "_law_t", "_law_turned", "_law_odd", "_law_place", "_law_good"] ["_law_hand_here", "_law_book_here", "_law_backs_here"] (defScope s_law_refusals_right) := ⟨rfl, rfl, rfl, by decide +kernel, rfl, by decide +kernel, by decide +kernel⟩
def t_law_refusals_right (K : PySem.W.Frag) (sp_law_shuffled sp_law_pick sp_law_draw sp_law_refusal sp_law_due sp_law_orders sp_law_pick_o : Sp) : TS :=
    (tSeq (tAsg (tCB (rLen K) (tCons (tVar 2) tNil)) (gName 3))
    (tSeq (tAsg (tLst tNil) (gName 4))
    (tSeq (tFor (iRng1 (tCons (tVar 3) tNil)) (gName 5)
    (tDrop (tBM K "list" rAppend (tVar 4) (tCons (tLst (tCons (tVar 5) (tCons (tCall sp_law_pick [] E0 (tCons (tVar 0) (tCons (tLst (tCons (tVar 5) (tCons (tVar 5) (tCons (tVar 5) (tCons (tCall sp_law_draw [] E0 (tCons (tVar 0) (tCons (tVar 3) tNil))) (tCons (tVar 3) (tCons (tC (.bl true)) tNil))))))) tNil))) tNil))) tNil))))
    (tSeq (tAsg (tCall sp_law_shuffled [] E0 (tCons (tVar 0) (tCons (tVar 4) tNil))) (gName 4))
    (tSeq (tIfS (tTest (tOp (rEqD K) (tCall sp_law_draw [] E0 (tCons (tVar 0) (tCons (tC (.int 3)) tNil))) (tC (.int 0))))
    (tDrop (tBM0 K "list" rPop (tVar 4)))
    tNext)
    (tSeq (tIfS (tTest (tOp (rEqD K) (tCall sp_law_draw [] E0 (tCons (tVar 0) (tCons (tC (.int 4)) tNil))) (tC (.int 0))))
    (tDrop (tBM K "list" rAppend (tVar 4) (tCons (tLst (tCons (tCall sp_law_draw [] E0 (tCons (tVar 0) (tCons (tVar 3) tNil))) (tCons (tCall sp_law_draw [] E0 (tCons (tVar 0) (tCons (tVar 3) tNil))) tNil))) tNil)))
    tNext)
    (tSeq (tIfS (tTest (tOp (rNeD K) (tCall sp_law_refusal [] E0 (tCons (tVar 1) (tCons (tVar 4) tNil))) (tCall sp_law_due [] E0 (tCons (tVar 2) (tCons (tVar 4) tNil)))))
    (tRet (tC (.bl false)))
    tNext)
    (tSeq (tAsg (tCall sp_law_shuffled [] E0 (tCons (tVar 0) (tCons (tListZipR K (tVar 3) (tCall sp_law_pick [] E0 (tCons (tVar 0) (tCons (tCall sp_law_orders [] E0 (tCons (tVar 3) tNil)) tNil)))) tNil))) (gName 6))
    (tSeq (tIfS (tTest (tOp (rNeD K) (tCall sp_law_refusal [] E0 (tCons (tVar 1) (tCons (tVar 6) tNil))) (tCall sp_law_due [] E0 (tCons (tVar 2) (tCons (tVar 6) tNil)))))
    (tRet (tC (.bl false)))
    tNext)
    (tSeq (tAsg (tCall sp_law_pick [] E0 (tCons (tVar 0) (tCons (tLst (tCons (tC .non) (tCons (tTup (tCons (tC (.int 0)) tNil)) (tCons (tLst (tCons (tC (.int 0)) (tCons (tC (.int 1)) (tCons (tC (.int 0)) tNil)))) (tCons (tC (.str "01")) (tCons (tC (.int 5)) tNil)))))) tNil))) (gName 7))
    (tSeq (tAsg (tCall sp_law_draw [] E0 (tCons (tVar 0) (tCons (tVar 3) tNil))) (gName 8))
    (tSeq (tAsg (tLc (iRng1 (tCons (tVar 3) tNil)) (gName 5) tYes (tTup (tCons (tVar 5) (tCons (tVar 5) tNil))) [5]) (gName 9))
    (tSeq (tDrop (tBM K "list" rInsert (tVar 9) (tCons (tVar 8) (tCons (tVar 7) tNil))))
    (tSeq (tIfS (tTest (tOp (rNeD K) (tCall sp_law_refusal [] E0 (tCons (tVar 1) (tCons (tVar 9) tNil))) (tTup (tCons (tVar 8) (tCons (tC (.str "pair")) tNil)))))
    (tRet (tC (.bl false)))
    tNext)
    (tRet (tOp (rEqD K) (tCall sp_law_refusal [] E0 (tCons (tVar 1) (tCons (tCall sp_law_pick_o [] E0 (tCons (tVar 0) (tCons (tLst (tCons (tC .non) (tCons (tC (.int 3)) (tCons (tC (.str "0011")) (tCons tDNewK tNil))))) tNil))) tNil))) (tTup (tCons (tC (.int 0)) (tCons (tC (.str "pairs")) tNil)))))))))))))))))))
theorem ok_law_refusals_right {P : Program} {w : World} {K : PySem.W.Frag} {mg : Str → Option Value} {base : Heap} (T : Tz K mg P) {sp_law_shuffled sp_law_pick sp_law_draw sp_law_refusal sp_law_due sp_law_orders sp_law_pick_o : Sp} (C_law_shuffled : Cal P w K mg base CX0 5 "_law_shuffled" ["_law_hand_here", "_law_things"] sp_law_shuffled) (C_law_pick : Cal P w K mg base CX0 5 "_law_pick" ["_law_hand_here", "_law_things"] sp_law_pick) (C_law_draw : Cal P w K mg base CX0 4 "_law_draw" ["_law_hand_here", "_law_many"] sp_law_draw) (C_law_refusal : Cal P w K mg base CX0 10 "_law_refusal" ["_law_book_here", "_law_pairs"] sp_law_refusal) (C_law_due : Cal P w K mg base CX0 3 "_law_due" ["_law_backs_here", "_law_pairs"] sp_law_due) (C_law_orders : Cal P w K mg base CX0 3 "_law_orders" ["_law_size"] sp_law_orders) (C_law_pick_o : Cal P w K mg base CX0 5 "_law_pick" ["_law_hand_here", "_law_things"] sp_law_pick_o) {sp : Sp} (hl : ∀ vs H Q E, sp vs H Q E → vs.length = 3)
    (tr : ∀ vs H Q E, sp vs H Q E → t_law_refusals_right K sp_law_shuffled sp_law_pick sp_law_draw sp_law_refusal sp_law_due sp_law_orders sp_law_pick_o { nx := fun _ H' => Q .non H', rt := Q } (L2.start ["_law_hand_here", "_law_book_here", "_law_backs_here", "_law_many", "_law_pairs", "_law_t", "_law_turned", "_law_odd", "_law_place", "_law_good"] vs) H) :
    Cal P w K mg base CX0 11 "_law_refusals_right" ["_law_hand_here", "_law_book_here", "_law_backs_here"] sp := by
  obtain ⟨fd, F⟩ := T.F_law_refusals_right
  have b : Binds K fd ["_law_hand_here", "_law_book_here", "_law_backs_here"] [] := F.bindsN fun _ _ _ _ _ _ us hl => match us, hl with | [_, _, _], _ => rfl
  refine ⟨⟨fd, ?_, b⟩, F.kp, T.g_law_refusals_right⟩
  refine FunD.ok F sc_law_refusals_right hl fun cdv A outer s H vs Q E hr h => ⟨_, PSs.nox ?_, tr vs H Q E h⟩
  have hr_law_shuffled : Room 5 _ := hr.mono (by decide)
  have hr_law_pick : Room 5 _ := hr.mono (by decide)
  have hr_law_draw : Room 4 _ := hr.mono (by decide)
  have hr_law_refusal : Room 10 _ := hr.mono (by decide)
  have hr_law_due : Room 3 _ := hr.mono (by decide)
  have hr_law_orders : Room 3 _ := hr.mono (by decide)
  have hr_law_pick_o : Room 5 _ := hr.mono (by decide)
  have hu64 := hr.units
  unfold t_law_refusals_right
  exact (pss_cons (ps_set (i := 3) sc_law_refusals_right.nd rfl (by first | exact Or.inl rfl | exact Or.inr rfl) (pe_callB call_len (by rfl) T.f_len PySem.boot_len (pa_cons (pv 2) pa_nil)))
    (pss_cons (ps_set (i := 4) sc_law_refusals_right.nd rfl (by first | exact Or.inl rfl | exact Or.inr rfl) (pe_lst pa_nil))
    (pss_cons (ps_for PassesOwn.never rfl (pi_range1 (by rfl) T.f_range (pa_cons (pv 3) pa_nil)) (pg_name (i := 5) sc_law_refusals_right.nd rfl (by first | exact Or.inl rfl | exact Or.inr rfl)) (pss_one (ps_expr (pe_bm PySem.F.plainAttrs_list PySem.F.slot_list_append PySem.F.type_list_append mt_append (pv 4) (pa_cons (pe_lst (pa_cons (pv 5) (pa_cons (pe_cal C_law_pick hr_law_pick (by rfl) pass0 (pa_cons (pv 0) (pa_cons (pe_lst (pa_cons (pv 5) (pa_cons (pv 5) (pa_cons (pv 5) (pa_cons (pe_cal C_law_draw hr_law_draw (by rfl) pass0 (pa_cons (pv 0) (pa_cons (pv 3) pa_nil))) (pa_cons (pv 3) (pa_cons pe_bl pa_nil))))))) pa_nil))) pa_nil))) pa_nil)))))
    (pss_cons (ps_set (i := 4) sc_law_refusals_right.nd rfl (by first | exact Or.inl rfl | exact Or.inr rfl) (pe_cal C_law_shuffled hr_law_shuffled (by rfl) pass0 (pa_cons (pv 0) (pa_cons (pv 4) pa_nil))))
    (pss_cons (ps_if (pt_cmpR (op_eqD hu64) (pe_cal C_law_draw hr_law_draw (by rfl) pass0 (pa_cons (pv 0) (pa_cons pe_int pa_nil))) pe_int (nomark _)) (pss_one (ps_expr (pe_bm0 PySem.F.plainAttrs_list PySem.F.slot_list_pop PySem.F.type_list_pop mt_pop (pv 4)))) pss_nil)
    (pss_cons (ps_if (pt_cmpR (op_eqD hu64) (pe_cal C_law_draw hr_law_draw (by rfl) pass0 (pa_cons (pv 0) (pa_cons pe_int pa_nil))) pe_int (nomark _)) (pss_one (ps_expr (pe_bm PySem.F.plainAttrs_list PySem.F.slot_list_append PySem.F.type_list_append mt_append (pv 4) (pa_cons (pe_lst (pa_cons (pe_cal C_law_draw hr_law_draw (by rfl) pass0 (pa_cons (pv 0) (pa_cons (pv 3) pa_nil))) (pa_cons (pe_cal C_law_draw hr_law_draw (by rfl) pass0 (pa_cons (pv 0) (pa_cons (pv 3) pa_nil))) pa_nil))) pa_nil)))) pss_nil)
    (pss_cons (ps_if (pt_cmpR (op_neD hu64) (pe_cal C_law_refusal hr_law_refusal (by rfl) pass0 (pa_cons (pv 1) (pa_cons (pv 4) pa_nil))) (pe_cal C_law_due hr_law_due (by rfl) pass0 (pa_cons (pv 2) (pa_cons (pv 4) pa_nil))) (nomark _)) (pss_one (ps_ret pe_bl)) pss_nil)
    (pss_cons (ps_set (i := 6) sc_law_refusals_right.nd rfl (by first | exact Or.inl rfl | exact Or.inr rfl) (pe_cal C_law_shuffled hr_law_shuffled (by rfl) pass0 (pa_cons (pv 0) (pa_cons (pe_listZipR rfl (by rfl) T.f_list (by decide +kernel) (by rfl) T.f_zip (by rfl) T.f_range (pv 3) (pe_cal C_law_pick hr_law_pick (by rfl) pass0 (pa_cons (pv 0) (pa_cons (pe_cal C_law_orders hr_law_orders (by rfl) pass0 (pa_cons (pv 3) pa_nil)) pa_nil)))) pa_nil))))
    (pss_cons (ps_if (pt_cmpR (op_neD hu64) (pe_cal C_law_refusal hr_law_refusal (by rfl) pass0 (pa_cons (pv 1) (pa_cons (pv 6) pa_nil))) (pe_cal C_law_due hr_law_due (by rfl) pass0 (pa_cons (pv 2) (pa_cons (pv 6) pa_nil))) (nomark _)) (pss_one (ps_ret pe_bl)) pss_nil)
    (pss_cons (ps_set (i := 7) sc_law_refusals_right.nd rfl (by first | exact Or.inl rfl | exact Or.inr rfl) (pe_cal C_law_pick hr_law_pick (by rfl) pass0 (pa_cons (pv 0) (pa_cons (pe_lst (pa_cons pe_non (pa_cons (pe_tup (pa_cons pe_int pa_nil)) (pa_cons (pe_lst (pa_cons pe_int (pa_cons pe_int (pa_cons pe_int pa_nil)))) (pa_cons pe_str (pa_cons pe_int pa_nil)))))) pa_nil))))
    (pss_cons (ps_set (i := 8) sc_law_refusals_right.nd rfl (by first | exact Or.inl rfl | exact Or.inr rfl) (pe_cal C_law_draw hr_law_draw (by rfl) pass0 (pa_cons (pv 0) (pa_cons (pv 3) pa_nil))))
    (pss_cons (ps_setLc (i := 9) (own := [("_law_t", 5)]) (g := (gName 5)) (tt := tYes) rfl sc_law_refusals_right.nd rfl rfl (sw_true rfl rfl rfl (by kernel_rfl)) (pi_range1 (by rfl) T.f_range (pa_cons (pv 3) pa_nil)) (blkOk_by (by kernel_rfl)) (fun _ _ _ _ _ => (pg_name (i := 5) sc_law_refusals_right.nd rfl (by first | exact Or.inl rfl | exact Or.inr rfl))) (fun _ _ _ _ _ => pts_nil) (fun _ _ _ _ _ => (pe_tup (pa_cons (pv 5) (pa_cons (pv 5) pa_nil)))))
    (pss_cons (ps_expr (pe_bm PySem.F.plainAttrs_list PySem.F.slot_list_insert PySem.F.type_list_insert mt_insert (pv 9) (pa_cons (pv 8) (pa_cons (pv 7) pa_nil))))
    (pss_cons (ps_if (pt_cmpR (op_neD hu64) (pe_cal C_law_refusal hr_law_refusal (by rfl) pass0 (pa_cons (pv 1) (pa_cons (pv 9) pa_nil))) (pe_tup (pa_cons (pv 8) (pa_cons pe_str pa_nil))) (nomark _)) (pss_one (ps_ret pe_bl)) pss_nil)
    (pss_one (ps_ret (pe_cmpR (op_eqD hu64) (pe_cal C_law_refusal hr_law_refusal (by rfl) pass0 (pa_cons (pv 1) (pa_cons (pe_cal C_law_pick_o hr_law_pick_o (by rfl) pass0 (pa_cons (pv 0) (pa_cons (pe_lst (pa_cons pe_non (pa_cons pe_int (pa_cons pe_str (pa_cons pe_dnewK pa_nil))))) pa_nil))) pa_nil))) (pe_tup (pa_cons pe_int (pa_cons pe_str pa_nil))) (nomark _))))))))))))))))))
theorem sc_law : FnScope ["_law_script", "_law_hand_here", "_law_many", "_law_world", "_law_backs_here", "_law_book_here", "_law_namings_here", "_law_names", "_law_couples", "_law_renamed", "_law_other", "_law_k", "_law_table", "_law_turned", "_law_labels_here", "_law_second", "_law_more", "_law_due_here", "_law_met", "e", "_law_least", "_law_t", "_law_pair", "_law_row", "_law_tie", "_law_three"] ["_law_script"] (defScope s_law) := ⟨rfl, rfl, rfl, by decide +kernel, rfl, by decide +kernel, by decide +kernel⟩
def t_law (K : PySem.W.Frag) (sp_law_hand sp_law_pick sp_law_any_world sp_law_book sp_law_namings sp_law_shuffled sp_Book_renamed_ties sp_law_renamed_world sp_law_same_barred sp_law_drawn_table sp_law_labels sp_law_refusals_right sp_law_plain sp_law_draw sp_law_due_between sp_law_shape sp_same_up_to_names sp_law_let sp_Book_eq sp_Book_lets sp_law_fits sp_least_book sp_law_barred sp_law_company sp_law_classes sp_same_up_to_names_o : Sp) : TS :=
    (tSeq (tAsg (tCall sp_law_hand [] E0 (tCons (tVar 0) tNil)) (gName 1))
    (tSeq (tAsg (tCall sp_law_pick [] E0 (tCons (tVar 1) (tCons (tLst (tCons (tC (.int 2)) (tCons (tC (.int 3)) (tCons (tC (.int 4)) (tCons (tC (.int 3)) (tCons (tC (.int 2)) tNil)))))) tNil))) (gName 2))
    (tSeq (tAsg (tCall sp_law_any_world [] E0 (tCons (tVar 1) (tCons (tVar 2) tNil))) (gName 3))
    (tSeq (tAsg (tOp (rIxLT K) (tVar 3) (tC (.int 0))) (gName 4))
    (tSeq (tAsg (tCall sp_law_book [] E0 (tCons (tVar 1) (tCons (tVar 3) tNil))) (gName 5))
    (tSeq (tAsg (tCall sp_law_namings [] E0 (tCons (tVar 4) tNil)) (gName 6))
    (tSeq (tAsg (tCall sp_law_pick [] E0 (tCons (tVar 1) (tCons (tVar 6) tNil))) (gName 7))
    (tSeq (tAsg (tCall sp_law_shuffled [] E0 (tCons (tVar 1) (tCons (tLc (iRng1 (tCons (tVar 2) tNil)) (gName 21) tYes (tTup (tCons (tVar 21) (tCons (tOp (rIxLT K) (tVar 7) (tVar 21)) tNil))) [21]) tNil))) (gName 8))
    (tSeq (tAsg (tMeth (He.ga K "Book") "renamed_ties" sp_Book_renamed_ties [] E0 (tVar 5) (tCons (tLc (iSeq K (tVar 8)) (gName 22) tYes (tCall sp_law_shape [] E0 (tCons (tVar 1) (tCons (tVar 22) tNil))) [22]) tNil)) (gName 9))
    (tSeq (tAsg (tCall sp_law_renamed_world [] E0 (tCons (tVar 3) (tCons (tVar 7) tNil))) (gName 10))
    (tSeq (tIfS (tNot (tB (tCall sp_law_same_barred [] E0 (tCons (tVar 9) (tCons (tVar 10) tNil)))))
    (tRet (tC (.bl false)))
    tNext)
    (tSeq (tFor (iRng1 (tCons (tC (.int 2)) tNil)) (gName 11)
    (tSeq (tAsg (tCall sp_law_drawn_table [] E0 (tCons (tVar 1) (tCons (tVar 4) (tCons (tCall sp_law_pick [] E0 (tCons (tVar 1) (tCons (tLst (tCons (tC (.int 3)) (tCons (tC (.int 3)) (tCons (tC (.int 4)) tNil)))) tNil))) tNil)))) (gName 12))
    (tSeq (tAsg (tLc (iSeq K (tVar 12)) (gName 23) tYes (tLc (iSeq K (tVar 23)) (gName 24) tYes (tIf (tTest (tOp rGe (tVar 24) (tC (.int 0)))) (tOp (rIxLT K) (tVar 7) (tVar 24)) (tUn (rU fun i => .int (-i)) (tC (.int 1)))) [24]) [23]) (gName 13))
    (tSeq (tAsg (tCall sp_law_labels [] E0 (tCons (tVar 1) (tCons (tCB (rLen K) (tCons (tVar 12) tNil)) tNil))) (gName 14))
    (tIfS (tNot (tB (tCall sp_law_plain [] E0 (tCons (tMeth (He.ga K "Book") "lets" sp_Book_lets [] E0 (tVar 9) (tCons (tCall sp_law_company [] E0 (tCons (tVar 4) (tCons (tVar 14) (tCons (tVar 13) tNil)))) tNil)) (tCons (tCall sp_law_fits [] E0 (tCons (tVar 3) (tCons (tVar 12) tNil))) tNil)))))
    (tRet (tC (.bl false)))
    tNext)))))
    (tSeq (tIfS (tNot (tB (tCall sp_law_refusals_right [] E0 (tCons (tVar 1) (tCons (tVar 5) (tCons (tVar 4) tNil))))))
    (tRet (tC (.bl false)))
    tNext)
    (tSeq (tIfS (tNot (tB (tCall sp_law_plain [] E0 (tCons (tCall sp_same_up_to_names [] E0 (tCons (tVar 5) (tCons (tVar 9) tNil))) (tCons (tCall sp_law_due_between [] E0 (tCons (tVar 3) (tCons (tVar 10) tNil))) tNil)))))
    (tRet (tC (.bl false)))
    tNext)
    (tSeq (tAsg (tCall sp_law_any_world [] E0 (tCons (tVar 1) (tCons (tVar 2) tNil))) (gName 15))
    (tSeq (tIfS (tTest (tOp (rEqD K) (tCall sp_law_draw [] E0 (tCons (tVar 1) (tCons (tC (.int 2)) tNil))) (tC (.int 0))))
    (tAsg (tTup (tCons (tVar 4) (tCons (tCall sp_law_let [] E0 (tCons (tVar 4) (tCons (tLc (iSeq K (tCall sp_law_classes [] E0 (tCons (tVar 4) tNil))) (gName 25) (tTest (tOp (rEqD K) (tCall sp_law_draw [] E0 (tCons (tVar 1) (tCons (tC (.int 2)) tNil))) (tC (.int 0)))) (tVar 25) [25]) tNil))) tNil))) (gName 15))
    tNext)
    (tSeq (tAsg (tCall sp_law_book [] E0 (tCons (tVar 1) (tCons (tVar 15) tNil))) (gName 16))
    (tSeq (tIfS (tTest (tOp (rEqD K) (tCB (rListOf K) (tCons (tOp (rIxLT K) (tVar 15) (tC (.int 0))) tNil)) (tCB (rListOf K) (tCons (tVar 4) tNil))))
    (tSeq (tAsg (tCall sp_law_due_between [] E0 (tCons (tVar 3) (tCons (tVar 15) tNil))) (gName 17))
    (tSeq (tIfS (tNot (tB (tCall sp_law_plain [] E0 (tCons (tCall sp_same_up_to_names [] E0 (tCons (tVar 5) (tCons (tVar 16) tNil))) (tCons (tVar 17) tNil)))))
    (tRet (tC (.bl false)))
    tNext)
    (tIfS (tTest (tOp (rNeD K) (tOp (rOwnEq (He.ga K "Book") sp_Book_eq) (tCall sp_least_book [] E0 (tCons (tVar 5) tNil)) (tCall sp_least_book [] E0 (tCons (tVar 16) tNil))) (tOp rIsNot (tVar 17) (tC .non))))
    (tRet (tC (.bl false)))
    tNext)))
    (tSeq (tAsg (tC (.int 0)) (gName 18))
    (tSeq (tTryAs K (.ref (He.ga K "OtherTies")) 19 (fun W => tDrop (tCallS sp_same_up_to_names_o (WE W) (tCons (tVar 5) (tCons (tVar 16) tNil))))
    (fun a cls d => (tAsg (tCB rInt1 (tCons (tCB (rIsX K (He.ga K "OtherTies") a cls d) (tCons (tVar 19) (tCons (tC (.ref (He.ga K "GuestError"))) tNil))) tNil)) (gName 18))))
    (tIfS (tTest (tOp (rNeD K) (tVar 18) (tC (.int 1))))
    (tRet (tC (.bl false)))
    tNext))))
    (tSeq (tAsg (tCB (rMinD K) (tCons (tLc (iSeq K (tVar 6)) (gName 23) tYes (tThen (tCall sp_law_barred [] E0 (tCons (tCall sp_law_renamed_world [] E0 (tCons (tVar 3) (tCons (tVar 23) tNil))) tNil)) (kTup K)) [23]) tNil)) (gName 20))
    (tRet (tAndV (tCall sp_law_plain [] E0 (tCons (tFld K (tCall sp_least_book [] E0 (tCons (tVar 5) tNil)) "barred") (tCons (tVar 20) tNil))) (tCall sp_law_plain [] E0 (tCons (tFld K (tCall sp_least_book [] E0 (tCons (tVar 9) tNil)) "barred") (tCons (tVar 20) tNil))))))))))))))))))))))))
theorem ok_law {P : Program} {w : World} {K : PySem.W.Frag} {mg : Str → Option Value} {base : Heap} (T : Tz K mg P) {sp_law_hand sp_law_pick sp_law_any_world sp_law_book sp_law_namings sp_law_shuffled sp_Book_renamed_ties sp_law_renamed_world sp_law_same_barred sp_law_drawn_table sp_law_labels sp_law_refusals_right sp_law_plain sp_law_draw sp_law_due_between sp_law_shape sp_same_up_to_names sp_law_let sp_Book_eq sp_Book_lets sp_law_fits sp_least_book sp_law_barred sp_law_company sp_law_classes sp_same_up_to_names_o : Sp} (C_law_hand : Cal P w K mg base CX0 3 "_law_hand" ["_law_script"] sp_law_hand) (C_law_pick : Cal P w K mg base CX0 5 "_law_pick" ["_law_hand_here", "_law_things"] sp_law_pick) (C_law_any_world : Cal P w K mg base CX0 6 "_law_any_world" ["_law_hand_here", "_law_many"] sp_law_any_world) (C_law_book : Cal P w K mg base CX0 9 "_law_book" ["_law_hand_here", "_law_world"] sp_law_book) (C_law_namings : Cal P w K mg base CX0 4 "_law_namings" ["_law_backs_here"] sp_law_namings) (C_law_shuffled : Cal P w K mg base CX0 5 "_law_shuffled" ["_law_hand_here", "_law_things"] sp_law_shuffled) (C_Book_renamed_ties : CalM P w K mg base (L2.CX P w) 9 "Book" "renamed_ties" ["self", "pairs"] sp_Book_renamed_ties) (C_law_renamed_world : Cal P w K mg base CX0 5 "_law_renamed_world" ["_law_world", "_law_names"] sp_law_renamed_world) (C_law_same_barred : Cal P w K mg base CX0 10 "_law_same_barred" ["_law_book_here", "_law_world"] sp_law_same_barred) (C_law_drawn_table : Cal P w K mg base CX0 5 "_law_drawn_table" ["_law_hand_here", "_law_backs_here", "_law_size"] sp_law_drawn_table) (C_law_labels : Cal P w K mg base CX0 5 "_law_labels" ["_law_hand_here", "_law_many"] sp_law_labels) (C_law_refusals_right : Cal P w K mg base CX0 11 "_law_refusals_right" ["_law_hand_here", "_law_book_here", "_law_backs_here"] sp_law_refusals_right) (C_law_plain : Cal P w K mg base CX0 9 "_law_plain" ["_law_answer", "_law_due_here"] sp_law_plain) (C_law_draw : Cal P w K mg base CX0 4 "_law_draw" ["_law_hand_here", "_law_many"] sp_law_draw) (C_law_due_between : Cal P w K mg base CX0 6 "_law_due_between" ["_law_first", "_law_second"] sp_law_due_between) (C_law_shape : Cal P w K mg base CX0 5 "_law_shape" ["_law_hand_here", "_law_row"] sp_law_shape) (C_same_up_to_names : Cal P w K mg base (L2.CX P w) 10 "same_up_to_names" ["one", "other"] sp_same_up_to_names) (C_law_let : Cal P w K mg base CX0 4 "_law_let" ["_law_backs_here", "_law_classes_here"] sp_law_let) (C_Book_eq : CalM P w K mg base CX0 6 "Book" "__eq__" ["self", "other"] sp_Book_eq) (C_Book_lets : CalM P w K mg base CX0 7 "Book" "lets" ["self", "company"] sp_Book_lets) (C_law_fits : Cal P w K mg base CX0 3 "_law_fits" ["_law_world", "_law_table"] sp_law_fits) (C_least_book : Cal P w K mg base CX0 10 "least_book" ["book"] sp_least_book) (C_law_barred : Cal P w K mg base CX0 3 "_law_barred" ["_law_world"] sp_law_barred) (C_law_company : Cal P w K mg base CX0 9 "_law_company" ["_law_backs_here", "_law_labels_here", "_law_table"] sp_law_company) (C_law_classes : Cal P w K mg base CX0 4 "_law_classes" ["_law_backs_here"] sp_law_classes) (C_same_up_to_names_o : Cal P w K mg base (L2.CX P w) 10 "same_up_to_names" ["one", "other"] sp_same_up_to_names_o) {sp : Sp} (hl : ∀ vs H Q E, sp vs H Q E → vs.length = 1)
    (tr : ∀ vs H Q E, sp vs H Q E → t_law K sp_law_hand sp_law_pick sp_law_any_world sp_law_book sp_law_namings sp_law_shuffled sp_Book_renamed_ties sp_law_renamed_world sp_law_same_barred sp_law_drawn_table sp_law_labels sp_law_refusals_right sp_law_plain sp_law_draw sp_law_due_between sp_law_shape sp_same_up_to_names sp_law_let sp_Book_eq sp_Book_lets sp_law_fits sp_least_book sp_law_barred sp_law_company sp_law_classes sp_same_up_to_names_o { nx := fun _ H' => Q .non H', rt := Q } (L2.start ["_law_script", "_law_hand_here", "_law_many", "_law_world", "_law_backs_here", "_law_book_here", "_law_namings_here", "_law_names", "_law_couples", "_law_renamed", "_law_other", "_law_k", "_law_table", "_law_turned", "_law_labels_here", "_law_second", "_law_more", "_law_due_here", "_law_met", "e", "_law_least", "_law_t", "_law_pair", "_law_row", "_law_tie", "_law_three"] vs) H) :
    ∀ {fd : FuncData}, FunD K d_law.name d_law.qual d_law.params d_law.body d_law.scope (d_law.dvs K) (d_law.kws K) (He.fAd K d_law.at_) fd → FnOk P w K mg base CX0 12 (He.ga K "law") fd ["_law_script"] sp := by
  intro fd F
  refine FunD.ok F sc_law hl fun cdv A outer s H vs Q E hr h => ⟨_, PSs.nox ?_, tr vs H Q E h⟩
  have hr_law_hand : Room 3 _ := hr.mono (by decide)
  have hr_law_pick : Room 5 _ := hr.mono (by decide)
  have hr_law_any_world : Room 6 _ := hr.mono (by decide)
  have hr_law_book : Room 9 _ := hr.mono (by decide)
  have hr_law_namings : Room 4 _ := hr.mono (by decide)
  have hr_law_shuffled : Room 5 _ := hr.mono (by decide)
  have hr_Book_renamed_ties : Room 9 _ := hr.mono (by decide)
  have hr_law_renamed_world : Room 5 _ := hr.mono (by decide)
  have hr_law_same_barred : Room 10 _ := hr.mono (by decide)
  have hr_law_drawn_table : Room 5 _ := hr.mono (by decide)
  have hr_law_labels : Room 5 _ := hr.mono (by decide)
  have hr_law_refusals_right : Room 11 _ := hr.mono (by decide)
  have hr_law_plain : Room 9 _ := hr.mono (by decide)
  have hr_law_draw : Room 4 _ := hr.mono (by decide)
  have hr_law_due_between : Room 6 _ := hr.mono (by decide)
  have hr_law_shape : Room 5 _ := hr.mono (by decide)
  have hr_same_up_to_names : Room 10 _ := hr.mono (by decide)
  have hr_law_let : Room 4 _ := hr.mono (by decide)
  have hr_Book_eq : Room 6 _ := hr.mono (by decide)
  have hr_Book_lets : Room 7 _ := hr.mono (by decide)
  have hr_law_fits : Room 3 _ := hr.mono (by decide)
  have hr_least_book : Room 10 _ := hr.mono (by decide)
  have hr_law_barred : Room 3 _ := hr.mono (by decide)
  have hr_law_company : Room 9 _ := hr.mono (by decide)
  have hr_law_classes : Room 4 _ := hr.mono (by decide)
  have hr_same_up_to_names_o : Room 10 _ := hr.mono (by decide)
  have hu64 := hr.units
  have hu65 := hu65_of hr
  unfold t_law
  exact (pss_cons (ps_set (i := 1) sc_law.nd rfl (by first | exact Or.inl rfl | exact Or.inr rfl) (pe_cal C_law_hand hr_law_hand (by rfl) pass0 (pa_cons (pv 0) pa_nil)))
    (pss_cons (ps_set (i := 2) sc_law.nd rfl (by first | exact Or.inl rfl | exact Or.inr rfl) (pe_cal C_law_pick hr_law_pick (by rfl) pass0 (pa_cons (pv 1) (pa_cons (pe_lst (pa_cons pe_int (pa_cons pe_int (pa_cons pe_int (pa_cons pe_int (pa_cons pe_int pa_nil)))))) pa_nil))))
    (pss_cons (ps_set (i := 3) sc_law.nd rfl (by first | exact Or.inl rfl | exact Or.inr rfl) (pe_cal C_law_any_world hr_law_any_world (by rfl) pass0 (pa_cons (pv 1) (pa_cons (pv 2) pa_nil))))
    (pss_cons (ps_set (i := 4) sc_law.nd rfl (by first | exact Or.inl rfl | exact Or.inr rfl) (pe_ix ix_LT (pv 3) pe_int (fun _ _ => rfl)))
    (pss_cons (ps_set (i := 5) sc_law.nd rfl (by first | exact Or.inl rfl | exact Or.inr rfl) (pe_cal C_law_book hr_law_book (by rfl) pass0 (pa_cons (pv 1) (pa_cons (pv 3) pa_nil))))
    (pss_cons (ps_set (i := 6) sc_law.nd rfl (by first | exact Or.inl rfl | exact Or.inr rfl) (pe_cal C_law_namings hr_law_namings (by rfl) pass0 (pa_cons (pv 4) pa_nil)))
    (pss_cons (ps_set (i := 7) sc_law.nd rfl (by first | exact Or.inl rfl | exact Or.inr rfl) (pe_cal C_law_pick hr_law_pick (by rfl) pass0 (pa_cons (pv 1) (pa_cons (pv 6) pa_nil))))
    (pss_cons (ps_set (i := 8) sc_law.nd rfl (by first | exact Or.inl rfl | exact Or.inr rfl) (pe_cal C_law_shuffled hr_law_shuffled (by rfl) pass0 (pa_cons (pv 1) (pa_cons (pe_lc (own := [("_law_t", 21)]) (g := (gName 21)) (tt := tYes) rfl sc_law.nd (pi_range1 (by rfl) T.f_range (pa_cons (pv 2) pa_nil)) (blkOk_by (by kernel_rfl)) (fun _ _ _ _ _ => (pg_name (i := 21) sc_law.nd rfl (by first | exact Or.inl rfl | exact Or.inr rfl))) (fun _ _ _ _ _ => pts_nil) (fun _ _ _ _ _ => (pe_tup (pa_cons (pv 21) (pa_cons (pe_ix ix_LT (pv 7) (pv 21) (fun _ _ => rfl)) pa_nil))))) pa_nil))))
    (pss_cons (ps_set (i := 9) sc_law.nd rfl (by first | exact Or.inl rfl | exact Or.inr rfl) (pe_calM C_Book_renamed_ties T.c_Book hr_Book_renamed_ties passL (pv 5) (pa_cons (pe_lc (own := [("_law_pair", 22)]) (g := (gName 22)) (tt := tYes) rfl sc_law.nd (pi_seq (pv 8)) (blkOk_by (by kernel_rfl)) (fun _ _ _ _ _ => (pg_name (i := 22) sc_law.nd rfl (by first | exact Or.inl rfl | exact Or.inr rfl))) (fun _ _ _ _ _ => pts_nil) (fun _ _ _ _ _ => (pe_cal C_law_shape hr_law_shape (by rfl) pass0 (pa_cons (pv 1) (pa_cons (pv 22) pa_nil))))) pa_nil)))
    (pss_cons (ps_set (i := 10) sc_law.nd rfl (by first | exact Or.inl rfl | exact Or.inr rfl) (pe_cal C_law_renamed_world hr_law_renamed_world (by rfl) pass0 (pa_cons (pv 3) (pa_cons (pv 7) pa_nil))))
    (pss_cons (ps_if (pt_not (pt_val (pe_cal C_law_same_barred hr_law_same_barred (by rfl) pass0 (pa_cons (pv 9) (pa_cons (pv 10) pa_nil))))) (pss_one (ps_ret pe_bl)) pss_nil)
    (pss_cons (ps_for PassesOwn.never rfl (pi_range1 (by rfl) T.f_range (pa_cons pe_int pa_nil)) (pg_name (i := 11) sc_law.nd rfl (by first | exact Or.inl rfl | exact Or.inr rfl)) (pss_cons (ps_set (i := 12) sc_law.nd rfl (by first | exact Or.inl rfl | exact Or.inr rfl) (pe_cal C_law_drawn_table hr_law_drawn_table (by rfl) pass0 (pa_cons (pv 1) (pa_cons (pv 4) (pa_cons (pe_cal C_law_pick hr_law_pick (by rfl) pass0 (pa_cons (pv 1) (pa_cons (pe_lst (pa_cons pe_int (pa_cons pe_int (pa_cons pe_int pa_nil)))) pa_nil))) pa_nil)))))
    (pss_cons (ps_setLc (i := 13) (own := [("_law_row", 23)]) (g := (gName 23)) (tt := tYes) rfl sc_law.nd rfl rfl (sw_true rfl rfl rfl (by kernel_rfl)) (pi_seq (pv 12)) (blkOk_by (by kernel_rfl)) (fun _ _ _ _ _ => (pg_name (i := 23) sc_law.nd rfl (by first | exact Or.inl rfl | exact Or.inr rfl))) (fun _ _ _ _ _ => pts_nil) (fun _ _ _ _ _ => (pe_lc (own := [("_law_tie", 24)]) (g := (gName 24)) (tt := tYes) rfl sc_law.nd (pi_seq (pv 23)) (blkOk_by (by kernel_rfl)) (fun _ _ _ _ _ => (pg_name (i := 24) sc_law.nd rfl (by first | exact Or.inl rfl | exact Or.inr rfl))) (fun _ _ _ _ _ => pts_nil) (fun _ _ _ _ _ => (pe_ifExp (pt_cmpR op_ge (pv 24) pe_int (nomark _)) (pe_ix ix_LT (pv 7) (pv 24) (fun _ _ => rfl)) (pe_un un_neg pe_int))))))
    (pss_cons (ps_set (i := 14) sc_law.nd rfl (by first | exact Or.inl rfl | exact Or.inr rfl) (pe_cal C_law_labels hr_law_labels (by rfl) pass0 (pa_cons (pv 1) (pa_cons (pe_callB call_len (by rfl) T.f_len PySem.boot_len (pa_cons (pv 12) pa_nil)) pa_nil))))
    (pss_one (ps_if (pt_not (pt_val (pe_cal C_law_plain hr_law_plain (by rfl) pass0 (pa_cons (pe_calM C_Book_lets T.c_Book hr_Book_lets pass0 (pv 9) (pa_cons (pe_cal C_law_company hr_law_company (by rfl) pass0 (pa_cons (pv 4) (pa_cons (pv 14) (pa_cons (pv 13) pa_nil)))) pa_nil)) (pa_cons (pe_cal C_law_fits hr_law_fits (by rfl) pass0 (pa_cons (pv 3) (pa_cons (pv 12) pa_nil))) pa_nil))))) (pss_one (ps_ret pe_bl)) pss_nil))))))
    (pss_cons (ps_if (pt_not (pt_val (pe_cal C_law_refusals_right hr_law_refusals_right (by rfl) pass0 (pa_cons (pv 1) (pa_cons (pv 5) (pa_cons (pv 4) pa_nil)))))) (pss_one (ps_ret pe_bl)) pss_nil)
    (pss_cons (ps_if (pt_not (pt_val (pe_cal C_law_plain hr_law_plain (by rfl) pass0 (pa_cons (pe_cal C_same_up_to_names hr_same_up_to_names (by rfl) passL (pa_cons (pv 5) (pa_cons (pv 9) pa_nil))) (pa_cons (pe_cal C_law_due_between hr_law_due_between (by rfl) pass0 (pa_cons (pv 3) (pa_cons (pv 10) pa_nil))) pa_nil))))) (pss_one (ps_ret pe_bl)) pss_nil)
    (pss_cons (ps_set (i := 15) sc_law.nd rfl (by first | exact Or.inl rfl | exact Or.inr rfl) (pe_cal C_law_any_world hr_law_any_world (by rfl) pass0 (pa_cons (pv 1) (pa_cons (pv 2) pa_nil))))
    (pss_cons (ps_if (pt_cmpR (op_eqD hu64) (pe_cal C_law_draw hr_law_draw (by rfl) pass0 (pa_cons (pv 1) (pa_cons pe_int pa_nil))) pe_int (nomark _)) (pss_one (ps_set (i := 15) sc_law.nd rfl (by first | exact Or.inl rfl | exact Or.inr rfl) (pe_tup (pa_cons (pv 4) (pa_cons (pe_cal C_law_let hr_law_let (by rfl) pass0 (pa_cons (pv 4) (pa_cons (pe_lc (own := [("_law_three", 25)]) (g := (gName 25)) (tt := (tTest (tOp (rEqD K) (tCall sp_law_draw [] E0 (tCons (tVar 1) (tCons (tC (.int 2)) tNil))) (tC (.int 0))))) rfl sc_law.nd (pi_seq (pe_cal C_law_classes hr_law_classes (by rfl) pass0 (pa_cons (pv 4) pa_nil))) (blkOk_by (by kernel_rfl)) (fun _ _ _ _ _ => (pg_name (i := 25) sc_law.nd rfl (by first | exact Or.inl rfl | exact Or.inr rfl))) (fun _ _ _ _ _ => (pts_one (pt_cmpR (op_eqD hu64) (pe_cal C_law_draw hr_law_draw (by rfl) pass0 (pa_cons (pv 1) (pa_cons pe_int pa_nil))) pe_int (nomark _)))) (fun _ _ _ _ _ => (pv 25))) pa_nil))) pa_nil))))) pss_nil)
    (pss_cons (ps_set (i := 16) sc_law.nd rfl (by first | exact Or.inl rfl | exact Or.inr rfl) (pe_cal C_law_book hr_law_book (by rfl) pass0 (pa_cons (pv 1) (pa_cons (pv 15) pa_nil))))
    (pss_cons (ps_if (pt_cmpR (op_eqD hu64) (pe_callTy call_list_of (by rfl) T.f_list (by decide +kernel) (pa_cons (pe_ix ix_LT (pv 15) pe_int (fun _ _ => rfl)) pa_nil)) (pe_callTy call_list_of (by rfl) T.f_list (by decide +kernel) (pa_cons (pv 4) pa_nil)) (nomark _)) (pss_cons (ps_set (i := 17) sc_law.nd rfl (by first | exact Or.inl rfl | exact Or.inr rfl) (pe_cal C_law_due_between hr_law_due_between (by rfl) pass0 (pa_cons (pv 3) (pa_cons (pv 15) pa_nil))))
    (pss_cons (ps_if (pt_not (pt_val (pe_cal C_law_plain hr_law_plain (by rfl) pass0 (pa_cons (pe_cal C_same_up_to_names hr_same_up_to_names (by rfl) passL (pa_cons (pv 5) (pa_cons (pv 16) pa_nil))) (pa_cons (pv 17) pa_nil))))) (pss_one (ps_ret pe_bl)) pss_nil)
    (pss_one (ps_if (pt_cmpR (op_neD hu64) (pe_cmpR (by exact op_ownEq C_Book_eq (hr.mono (by decide))) (pe_cal C_least_book hr_least_book (by rfl) pass0 (pa_cons (pv 5) pa_nil)) (pe_cal C_least_book hr_least_book (by rfl) pass0 (pa_cons (pv 16) pa_nil)) (nomark _)) (pe_cmpR op_notN (pv 17) pe_non (nomark _)) (nomark _)) (pss_one (ps_ret pe_bl)) pss_nil)))) (pss_cons (ps_set (i := 18) sc_law.nd rfl (by first | exact Or.inl rfl | exact Or.inr rfl) pe_int)
    (pss_cons (ps_try_as (i := 19) (tb := fun W => tDrop (tCallS sp_same_up_to_names_o (WE W) (tCons (tVar 5) (tCons (tVar 16) tNil)))) (ts := fun a cls d => (tAsg (tCB rInt1 (tCons (tCB (rIsX K (He.ga K "OtherTies") a cls d) (tCons (tVar 19) (tCons (tC (.ref (He.ga K "GuestError"))) tNil))) tNil)) (gName 18))) (Wout := fun _ _ _ _ => False) rfl rfl sc_law.nd rfl rfl ⟨rfl, by decide, Or.inl T.g_OtherTies⟩ takes0
      (fun W pn xe tk _ => pss_one (ps_expr (pe_calS C_same_up_to_names_o hr_same_up_to_names_o (by rfl) (fun σ => passAt tk σ) (pa_cons (pv 5) (pa_cons (pv 16) pa_nil)))))
      (fun a oe cls d pn hz hf => (pss_one (ps_set (i := 18) sc_law.nd rfl (by first | exact Or.inl rfl | exact Or.inr rfl) (pe_callTy call_int1 (by rfl) T.f_int (by decide +kernel) (pa_cons (pe_callB (call_isX T.otE.c hz hf) (by rfl) T.f_isinstance PyProof.Rows.boot_isinstance (pa_cons (pv 19) (pa_cons (pe_glob (by rfl) T.g_GuestError (by rfl)) pa_nil))) pa_nil))))))
    (pss_one (ps_if (pt_cmpR (op_neD hu64) (pv 18) pe_int (nomark _)) (pss_one (ps_ret pe_bl)) pss_nil)))))
    (pss_cons (ps_set (i := 20) sc_law.nd rfl (by first | exact Or.inl rfl | exact Or.inr rfl) (pe_callB (call_minD rfl hu65) (by rfl) T.f_min (by decide +kernel) (pa_cons (pe_lc (own := [("_law_row", 23)]) (g := (gName 23)) (tt := tYes) rfl sc_law.nd (pi_seq (pv 6)) (blkOk_by (by kernel_rfl)) (fun _ _ _ _ _ => (pg_name (i := 23) sc_law.nd rfl (by first | exact Or.inl rfl | exact Or.inr rfl))) (fun _ _ _ _ _ => pts_nil) (fun _ _ _ _ _ => (pe_tupleOf (by rfl) T.f_tuple (pe_cal C_law_barred hr_law_barred (by rfl) pass0 (pa_cons (pe_cal C_law_renamed_world hr_law_renamed_world (by rfl) pass0 (pa_cons (pv 3) (pa_cons (pv 23) pa_nil))) pa_nil))))) pa_nil)))
    (pss_one (ps_ret (pe_and (pe_cal C_law_plain hr_law_plain (by rfl) pass0 (pa_cons (pe_fld (pe_cal C_least_book hr_least_book (by rfl) pass0 (pa_cons (pv 5) pa_nil)) rfl) (pa_cons (pv 20) pa_nil))) (pe_one (pe_cal C_law_plain hr_law_plain (by rfl) pass0 (pa_cons (pe_fld (pe_cal C_least_book hr_least_book (by rfl) pass0 (pa_cons (pv 9) pa_nil)) rfl) (pa_cons (pv 20) pa_nil))))))))))))))))))))))))))
end Z
set_option Elab.async false
set_option linter.all false
set_option maxRecDepth 100000
set_option maxHeartbeats 1000000
namespace Z
open PySem PySem.Spec PyProof.Rows L2
/-- a caught error at a, its dict at d holds fs -/
def excS (a d : Addr) (fs : List (Str × V)) : Sm := ⟨fun H v => v = .ref a ∧ H d = some (.xd fs), fun e ⟨h1, h2⟩ => ⟨h1, e _ _ h2⟩⟩
section
variable {P : Program} {w : World} {K : PySem.W.Frag} {bc cs : List Cell} {Γ : List Tv} {E : XK} {N : List Cell → List Cell → List Tv → Prop} {R' : List Cell → Rv → Prop} {X' : Xv → Prop} {mg : Str → Option Value}
theorem St.setN {M bs ls : List Addr} {σ : L2.St} {H : Hp} (S : St K bc cs Γ M bs ls σ H) (j : Nat) : St K bc cs (Γ.set j .any) M bs ls (σ.set j none) H := S.with (Env.wipe1 j S.env)
/-- the suite, from a state that the body left by an error -/
theorem suite_run {M bs ls : List Addr} {σ : L2.St} {H H' : Hp} {j : Nat} {t : Tv} {v : V} {tu : TS} {D : Ends} (S : St K bc cs Γ M bs ls σ H) (ex : Ex H H') (hv : holds K bs ls (hid (ls ++ (bs ++ M)) H') v t)
    (tr : Tr K bc cs (Γ.set j t) E tu (fun b c g => N b c (g.set j .any)) R' X')
    (q : ∀ bc' cs' Γ' ls' σ' H', N bc' cs' Γ' → St K bc' cs' Γ' M bs ls' σ' H' → Kp bs ls H H' → Fresh ls ls' H → D.nx σ' H')
    (r : ∀ bc' r v H', R' bc' r → (∀ m, m ∈ M → Lv (H' m)) → CellsOk (hid (own v r ++ (bs ++ M)) H') H' bs bc' → Kp bs ls H H' → holdsR K bs M H H' v r → D.rt v H')
    (x : ∀ x d H', X' x → Kp bs ls H H' → H d = none → H' d = some (.xd x.fs) → E (.ref x.C) (some d) H') :
    tu { nx := fun σ' H' => D.nx (σ'.set j none) H', rt := D.rt, bk := fun σ' H' => D.bk (σ'.set j none) H', ct := fun σ' H' => D.ct (σ'.set j none) H' } (σ.set j (some v)) H' := by
  have kk : Kp bs ls H H' := Kp.of_ex ex
  refine tr M bs ls _ H' ((S.ex ex).set hv j) _ (fun b c g l s H2 n S2 k2 f2 => ?_) (fun b rr v H2 hr o cb k2 hv2 => ?_) fun y d H2 hy k2 n2 e2 => ?_
  · exact q b c _ l _ H2 n (S2.setN j) (kk.trans k2) (Fresh.step kk Fresh.refl f2)
  · exact r b rr v H2 hr o cb (kk.trans k2) (holdsR.step kk hv2)
  · exact x y d H2 hy (kk.trans k2) (kk.free n2) e2
/-- try: o.m(..) except C as e: .. -/
theorem tr_tryM {ι : Type} {C C0 : Addr} {m : Str} {ns : List (Str × Tv)} {ts : ι → List Tv} {R : ι → Rv → Prop} {Xi : ι → Xv → Prop} {te : TE} {ta : TA} {tl : List Tv} {j : Nat} {tsu : Addr → Value → Option Addr → TS} (i : ι) (h : Pn K bc cs Γ te (· = .sem (insS K C ns))) (hm : ns.lookup m = none) (ha : Pa K bc cs Γ ta (· = tl))
    (e : ts i = .sem (insS K C ns) :: tl) (hp : ∀ t, t ∈ tl → Pur t) (nx : ∀ r, R i r → N bc cs Γ)
    (er : ∀ x, Xi i x → PySem.W.exmOne K (.ref x.C) (.ref C0) = some true ∧ ∀ a d, Tr K bc cs (Γ.set j (.sem (excS a d x.fs))) E (tsu a (.ref x.C) (some d)) (fun b c g => N b c (g.set j .any)) R' X') :
    Tr K bc cs Γ E (tTryAs K (.ref C0) j (fun W => tDrop (tMthE C m (ProX K [] ts R Xi) (WE W) te ta)) tsu) N R' X' := fun M bs ls σ H S D q r x => by
  refine h M bs ls σ H S _ fun u v H1 hu S1 k1 hv => ?_
  subst hu
  have hv0 := hv
  obtain ⟨a, o, rfl, ha0, dx, fs, rfl, hf⟩ := hv
  refine ⟨a, dx, fs, rfl, hid_ex _ _ ha0, hf.none hm, ha M bs ls σ H1 S1 _ fun ts' vs H2 e2 S2 k2 hvs => ?_⟩
  subst e2
  have hv2 : holds K bs ls (hid (ls ++ (bs ++ M)) H2) (.ref a) (.sem (insS K C ns)) := holds.ex (t := .sem (insS K C ns)) k2.ex hv0
  have pa : ∀ t, t ∈ ts i → Pur t := fun t ht => by
    rw [e] at ht
    rcases List.mem_cons.mp ht with z | z
    · rw [z]; trivial
    · exact hp t z
  have k12 := k1.trans k2
  refine ⟨i, _, [], S2.callee0 (ts := ts i) pa (by rw [e]; exact ⟨hv2, hvs⟩), fun r v H3 h3 o cb k3 hv3 => ?_, fun y d H3 h3 k3 n3 e3 => ?_⟩
  · have ex := k3.ex0
    exact q bc cs Γ ls σ H3 (nx r h3) (S2.ex ex) (k12.trans (Kp.of_ex ex)) Fresh.refl
  · obtain ⟨hx, tr⟩ := er y h3
    refine ⟨true, hx, fun _ a0 na => ?_, fun z => by cases z⟩
    have ex := k3.ex0
    refine suite_run (v := .ref a0) (t := .sem (excS a0 d y.fs)) S2 ex ⟨rfl, ?_⟩ (tr a0 d) (fun b c g l s H4 n S4 k4 f4 => q b c g l s H4 n S4 (k12.trans k4) (Fresh.step k12 Fresh.refl f4)) (fun b rr v H4 hr o cb k4 hv4 => r b rr v H4 hr o cb (k12.trans k4) (holdsR.step k12 hv4)) fun z d H4 hz k4 n4 e4 => x z d H4 hz (k12.trans k4) (k12.free n4) e4
    rw [hid_of (nin (S2.new n3))]
    exact e3
/-- try: f(..) except OtherTies as e: .. -/
theorem tr_tryO {ι : Type} {ts : ι → List Tv} {ta : TA} {j : Nat} {tsu : Addr → Value → Option Addr → TS} (i : ι) (ha : Pa K bc cs Γ ta (· = ts i)) (hp : ∀ t, t ∈ ts i → Pur t)
    (ho : PySem.W.exmOne K (.ref (He.ga K "OtherTies")) (.ref (He.ga K "OtherTies")) = some true)
    (er : ∀ a, Tr K bc cs (Γ.set j (.sem (isV (.ref a)))) E (tsu a (.ref (He.ga K "OtherTies")) none) (fun b c g => N b c (g.set j .any)) R' X') :
    Tr K bc cs Γ E (tTryAs K (.ref (He.ga K "OtherTies")) j (fun W => tDrop (tCallS (ProO K ts) (WE W) ta)) tsu) N R' X' := fun M bs ls σ H S D q r x => by
  refine ha M bs ls σ H S _ fun ts' vs H1 e S1 k1 hv => ?_
  subst e
  refine ⟨i, _, S1.callee0 hp hv, fun H2 ex => ⟨true, ho, fun _ a na => ?_, fun z => by cases z⟩⟩
  exact suite_run (v := .ref a) (t := .sem (isV (.ref a))) S1 ex rfl (er a) (fun b c g l s H4 n S4 k4 f4 => q b c g l s H4 n S4 (k1.trans k4) (Fresh.step k1 Fresh.refl f4)) (fun b rr v H4 hr o cb k4 hv4 => r b rr v H4 hr o cb (k1.trans k4) (holdsR.step k1 hv4)) fun z d H4 hz k4 n4 e4 => x z d H4 hz (k1.trans k4) (k1.free n4) e4
/-! ### the error read -/
theorem pn_xf {j : Nat} {a d C : Addr} {fs : List (Str × V)} {f : Str} {v : V} {y : PyData} (h : Γ[j]? = some (.sem (excS a d fs))) (hf : fs.lookup f = some v) (hy : ∀ H, Dq K H v y) : Pn K bc cs Γ (tXf a (.ref C) (some d) C f (tVar j)) (· = .d y) := fun M bs ls σ H S Q q =>
  ps h M bs ls σ H S _ fun t u H1 ht S1 k1 hu => by
    subst ht
    obtain ⟨rfl, hd⟩ := hu
    exact ⟨rfl, rfl, d, fs, v, rfl, hid_ex _ _ hd, hf, q _ v H1 rfl S1 k1 (hy _)⟩
theorem relV_ref {G : Addr} : ∀ u, RelV (.ref G) u → u = .ref G := fun u h => h
theorem pn_isX {j : Nat} {a d C G : Addr} {fs : List (Str × V)} (h : Γ[j]? = some (.sem (excS a d fs))) (hk : PySem.W.kitOne K (.ref C) (.ref G) = some true) : Pn K bc cs Γ (tCB (rIsX K C a (.ref C) (some d)) (tCons (tVar j) (tCons (tC (.ref G)) tNil))) (· = .d (.bool true)) := fun M bs ls σ H S Q q =>
  ps h M bs ls σ H S _ fun t u H1 ht S1 k1 hu => by
    subst ht
    obtain ⟨rfl, hd⟩ := hu
    exact ⟨.ref G, .ref G, true, rfl, relV_ref, rfl, hk, .inr ⟨d, fs, rfl, hid_ex _ _ hd⟩, q _ _ H1 rfl S1 k1 (.bl true)⟩
theorem pn_isO {j : Nat} {a C G : Addr} (h : Γ[j]? = some (.sem (isV (.ref a)))) (hk : PySem.W.kitOne K (.ref C) (.ref G) = some true) : Pn K bc cs Γ (tCB (rIsX K C a (.ref C) none) (tCons (tVar j) (tCons (tC (.ref G)) tNil))) (· = .d (.bool true)) := fun M bs ls σ H S Q q =>
  ps h M bs ls σ H S _ fun t u H1 ht S1 k1 hu => by
    subst ht
    have hu' : u = .ref a := hu
    subst hu'
    exact ⟨.ref G, .ref G, true, rfl, relV_ref, rfl, hk, .inl rfl, q _ _ H1 rfl S1 k1 (.bl true)⟩
end
end Z
set_option Elab.async false
set_option linter.all false
set_option maxRecDepth 100000
set_option maxHeartbeats 1000000
namespace Z
open PySem PySem.Spec PyProof.Rows L2
section
variable {P : Program} {w : World} {K : PySem.W.Frag} {bc cs : List Cell} {Γ : List Tv} {E : XK} {N : List Cell → List Cell → List Tv → Prop} {R : List Cell → Rv → Prop} {X : Xv → Prop} {mg : Str → Option Value}
/-! ### _law_refusal -/
abbrev rfR : RtI → Rv → Prop := fun x r => r = .tv (.d (dueP x.β x.d))
abbrev spRf (K : PySem.W.Frag) : Sp := Pro K [] (rtTs K) rfR
theorem tr_law_refusal (T : Tz K mg P) (x : RtI) : Trp K [] E (t_law_refusal K (spRt K)) 1 (rtTs K) rfR x := by
  obtain ⟨β, B, d, bl, few⟩ := x
  refine tr_seq (tr_tryM (ns := bookN K β B) (tl := [tvA d]) (⟨β, B, d, bl, few⟩ : RtI) (ps (s := bookS K β B) rfl) (by kernel_rfl) (qa_cons (pv_A (d := d) rfl) qa_nil) rfl (fun t m => by simp at m; rw [m]; exact tvA_pur d) (fun r hr => ?_) fun v hv => ?_)
  · obtain ⟨l, h1, h2, _⟩ := hr
    refine tr_retD (x := .none) pc_non ⟨rfl, ?_⟩
    have h1' : itemsD d = some l := h1
    show _ = Rv.tv (.d (dueP β d))
    unfold dueP
    rw [h1']
    dsimp only
    have h2' : dueF β l = .none := h2
    rw [h2']
  · obtain ⟨k, s, h1, rfl⟩ := hv
    refine ⟨T.bbE.exm, fun a dd => ?_⟩
    have i1 : ∀ {cs : List Cell}, Pn K [] cs [.sem (bookS K β B), tvA d, .sem (excS a dd (bbX K k s).fs)] (tXf a (.ref (He.ga K "BadBook")) (some dd) (He.ga K "BadBook") "index" (tVar 2)) (· = .d (iD k)) := pn_xf (fs := (bbX K k s).fs) (v := .int (k : Int)) rfl (by rfl) fun H => .int _
    have i2 : ∀ {cs : List Cell}, Pn K [] cs [.sem (bookS K β B), tvA d, .sem (excS a dd (bbX K k s).fs)] (tXf a (.ref (He.ga K "BadBook")) (some dd) (He.ga K "BadBook") "what" (tVar 2)) (· = .d (.str s)) := pn_xf (fs := (bbX K k s).fs) (v := .str s) rfl (by rfl) fun H => .str _
    refine tr_if (b := true) (qt_and (b := !false) (qt_B (pn_isX rfl T.bbE.kit)) fun _ => qt_not (qt_B (pn_isiU "int" i1 rfl (by decide +kernel)))) (fun _ => ?_) fun e => by cases e
    refine tr_retD (x := .tuple [iD k, .str s]) (pn_tup (ds := [iD k, .str s]) (qa_cons i1 (qa_cons i2 qa_nil)) (by simp)) ⟨rfl, ?_⟩
    have h1' : dueP β d = .tuple [iD k, .str s] := h1
    show _ = Rv.tv (.d (dueP β d))
    rw [h1']
/-! ### a list of the def's own is handed out -/
theorem tr_seqRetF {t : TS} {i : Nat} (h : Tr K bc [] Γ E t (fun b c g => ∃ k ds, g[i]? = some (.cel k) ∧ c[k]? = some (lstC K ds) ∧ R b (.fr ds)) R X) : Tr K bc [] Γ E (tSeq t (tRet (tVar i))) N R X := fun M bs ls σ H S D q r x => by
  have e0 : ls = [] := by
    have := S.cell.len
    exact List.eq_nil_of_length_eq_zero this
  subst e0
  refine h M bs [] σ H S { D with nx := tRet (tVar i) D } (fun b c g l s H1 n S1 k1 f1 => ?_) r x
  obtain ⟨k, ds, hg, hc, hR⟩ := n
  refine pc (bc := b) (cs := c) hg M bs l s H1 S1 _ fun u v H2 hu S2 k2 hv => ?_
  subst hu
  obtain ⟨a, o, rfl, ea, h1, vs, rfl, h2⟩ := S2.cellR hv hc
  have hal := List.mem_of_getElem? ea
  have na : H a = none := (f1 a hal).elim (fun z => by cases z) id
  refine r b (.fr ds) (.ref a) H2 hR S2.old (S2.base.ex (hid_more fun y m => ?_) fun _ _ _ e => e) (k1.step f1 k2) ⟨a, vs, rfl, na, h1, DqAll.ex (hid_more fun y m => ?_) _ _ h2⟩
  · rcases List.mem_append.mp m with z | z
    · have z' : y = a := by simpa [own] using z
      rw [z']; exact List.mem_append_left _ hal
    · exact List.mem_append_right _ z
  · rcases List.mem_cons.mp m with z | z
    · rw [z]; exact List.mem_append_left _ hal
    · exact List.mem_append_right _ z
theorem tSeq_assoc (a b c : TS) : tSeq a (tSeq b c) = tSeq (tSeq a b) c := rfl
abbrev shfR : FwI → Rv → Prop := fun x r => ∃ es, List.Perm es x.ds ∧ r = .fr es
abbrev spShf (K : PySem.W.Frag) : Sp := Pro K [handC K] sfTs shfR
theorem tr_shuffledF (x : FwI) : Trp K [handC K] E (t_law_shuffled K (spDr K)) 2 sfTs shfR x := by
  obtain ⟨ds, few⟩ := x
  unfold t_law_shuffled
  rw [tSeq_assoc]
  refine tr_seqRetF ?_
  refine tr_seq (tr_newL (pf_lstD (ds := []) qa_nil (by decide)) fun ds e => ?_)
  subst e
  refine tr_for (si_seqL (pd rfl)) (fun _ i b c γ => b = [handC K] ∧ i ≤ ds.length ∧ Wk γ [.bas 0, .d (.list ds), .cel 0, .any] ∧ γ[2]? = some (.cel 0) ∧ ∃ es, c = [lstC K es] ∧ List.Perm es (ds.take i)) (fun _ _ => ⟨rfl, Nat.zero_le _, Wk.refl _, rfl, [], rfl, by simp⟩) ?_ ?_
  · rintro ds i d b c γ rfl hd ⟨rfl, _, hw, _, es, rfl, hp⟩
    have hi := (List.getElem?_eq_some_iff.mp hd).1
    have hl : es.length = i := by rw [hp.length_eq, List.length_take]; omega
    refine ⟨_, _, tg_name, tr_wk (wk_set hw) ?_⟩
    refine tr_insert (I := fun n => n < es.length + 1) (T := fun u => u = .d d) (k := 0) rfl rfl (by omega) ?_ (fun n e => by omega) (pd rfl) ?_
    · refine (pn_draw rfl (n := es.length + 1) ?_ (by omega) (by omega)).mono fun t ⟨k, hk, e⟩ => ⟨k, hk, e⟩
      exact pd_op (pn_lenL (pc rfl) (.c 0 _ rfl)) pc_int ro_int
    · rintro n _ hn rfl
      exact ⟨d, rfl, rfl, hi, ⟨.inr rfl, .inr rfl, .inr rfl, .inl rfl, trivial⟩, rfl, _, rfl, by rw [take_succ hd]; exact perm_insert hp⟩
  · rintro ds b c γ rfl ⟨rfl, _, hw, hg, es, rfl, hp⟩
    rw [List.take_length] at hp
    exact ⟨0, es, hg, rfl, rfl, es, hp, rfl⟩
/-! ### one of four odd things -/
def oddL : List PyData := [.none, .int 3, .str "0011", .dict []]
def oddS : Sm := ⟨fun H v => ∃ a b, v = .ref a ∧ H a = some (.lst [.non, .int 3, .str "0011", .ref b]) ∧ H b = some (.dK []), fun e ⟨a, b, h1, h2, h3⟩ => ⟨a, b, h1, e _ _ h2, e _ _ h3⟩⟩
theorem pn_odd : Pn K bc cs Γ (tLst (tCons (tC .non) (tCons (tC (.int 3)) (tCons (tC (.str "0011")) (tCons tDNewK tNil))))) (· = .sem oddS) := fun M bs ls σ H S Q q => by
  refine fun b nb => ⟨by show 4 ≤ sizeLine; rw [sizeLine_eq]; decide, fun a na => ?_⟩
  have e1 := ex_upd (H := H) (o := .dK []) nb
  have e2 := ex_upd (H := upd H b (.dK [])) (o := .lst [.non, .int 3, .str "0011", .ref b]) na
  have ex := Ex.trans e1 e2
  have nab : b ≠ a := fun z => by rw [← z, upd_same] at na; cases na
  have na0 : H a = none := by rwa [upd_ne (Ne.symm nab)] at na
  refine q _ _ _ rfl (S.ex ex) (Kp.of_ex ex) ⟨a, b, rfl, ?_, ?_⟩
  · rw [hid_of (nin (S.new na0)), upd_same]
  · rw [hid_of (nin (S.new nb)), upd_ne nab, upd_same]
abbrev pkoTs : Unit → List Tv := fun _ => [.bas 0, .sem oddS]
abbrev pkoR : Unit → Rv → Prop := fun _ r => ∃ d, d ∈ oddL ∧ r = .tv (tvA d)
abbrev spPko (K : PySem.W.Frag) : Sp := Pro K [handC K] pkoTs pkoR
theorem pn_lenOdd {te : TE} (h : Pn K bc cs Γ te (· = .sem oddS)) : Pn K bc cs Γ (tCB (rLen K) (tCons te tNil)) (· = .d (iD 4)) := pn_cb (qa_cons h qa_nil) (rc_val fun M bs ls σ H vs S hv Q q => by
  obtain ⟨v, rfl, a, b, rfl, h1, h2⟩ := hv.one
  exact ⟨_, 4, rfl, .inl ⟨_, SqL.of (hid_ex _ _ h1), rfl⟩, q _ (.int _)⟩)
theorem ro_odd {k : Nat} (hk : k < 4) : Ro K bc cs Γ (rIxLT K) (.sem oddS) (.d (iD k)) (fun t => ∃ d, d ∈ oddL ∧ t = tvA d) := fun M bs ls σ H x y S hx hy Q q => by
  cases hy
  obtain ⟨a, b, rfl, h1, h2⟩ := hx
  have hs := SqL.of (K := K) (hid_ex _ _ h1)
  match k, hk with
  | 0, _ => exact .inl ⟨a, _, 0, .non, rfl, rfl, hs, rfl, q (.d .none) .non H ⟨.none, by simp [oddL], rfl⟩ S (Kp.refl H) .non⟩
  | 1, _ => exact .inl ⟨a, _, 1, .int 3, rfl, rfl, hs, rfl, q (.d (.int 3)) (.int 3) H ⟨.int 3, by simp [oddL], rfl⟩ S (Kp.refl H) (.int 3)⟩
  | 2, _ => exact .inl ⟨a, _, 2, .str "0011", rfl, rfl, hs, rfl, q (.d (.str "0011")) (.str "0011") H ⟨.str "0011", by simp [oddL], rfl⟩ S (Kp.refl H) (.str _)⟩
  | 3, _ => exact .inl ⟨a, _, 3, .ref b, rfl, rfl, hs, rfl, q (.sem dctS) (.ref b) H ⟨.dict [], by simp [oddL], rfl⟩ S (Kp.refl H) ⟨b, rfl, h2⟩⟩
theorem tr_pickO (x : Unit) : Trp K [handC K] E (t_law_pick K (spDr K)) 0 pkoTs pkoR x := by
  refine tr_ret (T := fun t => ∃ d, d ∈ oddL ∧ t = tvA d) ?_ fun t ⟨d, h, e⟩ => by rw [e]; exact ⟨tvA_pur d, rfl, d, h, rfl⟩
  refine pn_op (ps (s := oddS) rfl) (pn_draw rfl (pn_lenOdd (ps (s := oddS) rfl)) (by decide) (by decide)) fun t u e ⟨k, hk, e2⟩ => ?_
  rw [e, e2]
  exact ro_odd hk
end
end Z
set_option Elab.async false
set_option linter.all false
set_option maxRecDepth 100000
set_option maxHeartbeats 1000000
namespace Z
open PySem PySem.Spec PyProof.Rows L2
def WordOk (s : Str) : Prop := (PyData.str s).canLay0 = true
theorem kind_word (m : Nat) (items : List PyData) (i : Nat) : WordOk ((kind m items i).getD "") := by
  unfold kind
  cases items[i]? with
  | none => exact (by decide +kernel : (PyData.str "").canLay0 = true)
  | some d =>
    dsimp only
    cases cplD m d with
    | none => exact (by decide +kernel : (PyData.str "pair").canLay0 = true)
    | some p =>
      dsimp only
      by_cases h : ((fsts (prs m items i)).contains p.1 || (snds (prs m items i)).contains p.2) = true
      · rw [if_pos h]; exact (by decide +kernel : (PyData.str "double").canLay0 = true)
      · rw [if_neg h]; exact (by decide +kernel : (PyData.str "").canLay0 = true)
theorem due_form (β : List Nat) (items : List PyData) : dueF β items = .none ∨ ∃ k s, dueF β items = .tuple [iD k, .str s] ∧ WordOk s := by
  unfold dueF
  cases (List.range items.length).find? (fun i => (kind β.length items i).isSome) with
  | some i => exact .inr ⟨_, _, rfl, kind_word _ _ _⟩
  | none =>
    dsimp only
    by_cases h : (items.filterMap (cplD β.length)).length < β.length
    · rw [if_pos h]; exact .inr ⟨_, _, rfl, (by decide +kernel : (PyData.str "lacking").canLay0 = true)⟩
    · rw [if_neg h]
      cases (List.range (items.filterMap (cplD β.length)).length).find? (fun k => !backOk β (items.filterMap (cplD β.length)) k) with
      | some k => exact .inr ⟨_, _, rfl, (by decide +kernel : (PyData.str "back").canLay0 = true)⟩
      | none => exact .inl rfl
theorem fl_kS {k : Nat} {s : Str} (h : WordOk s) : Fl 1 (.tuple [iD k, .str s]) := fl_tup (n := 0) fun d hd => by
  simp at hd
  rcases hd with rfl | rfl
  · exact fl_int
  · exact ⟨h, Nat.zero_le _⟩
theorem sh_kS {k : Nat} {s : Str} (h : WordOk s) : SeqAt.shaped (.tuple [iD k, .str s]) = true := (fl_kS h).sh (by decide)
theorem eqv_kS {k : Nat} {s : Str} (h : WordOk s) : PyData.eqv (.tuple [iD k, .str s]) (.tuple [iD k, .str s]) = true := PySem.SeqAt.eqv_refl _ (fl_kS h).1
theorem due_sh (β : List Nat) (items : List PyData) : SeqAt.shaped (dueF β items) = true ∧ PyData.eqv (dueF β items) (dueF β items) = true := by
  rcases due_form β items with e | ⟨k, s, e, hw⟩
  · rw [e]; exact ⟨fl_none.sh (n := 0) (by decide), eqv_self (by rfl)⟩
  · rw [e]; exact ⟨sh_kS hw, eqv_kS hw⟩
def TwoB (d : PyData) : Prop := ∃ x y, itemsD d = some [x, y] ∧ IntB x ∧ IntB y
theorem intB_nat (n : Nat) : IntB (iD n) := .inl ⟨_, rfl⟩
section
variable {P : Program} {w : World} {K : PySem.W.Frag} {bc cs : List Cell} {Γ : List Tv} {E : XK} {N : List Cell → List Cell → List Tv → Prop} {R : List Cell → Rv → Prop} {X : Xv → Prop} {mg : Str → Option Value}
theorem pf_callBG {c : Cell} {ι : Type} {ts : ι → List Tv} {R : ι → Rv → Prop} {ta : TA} {E : XK} {TA' : List Tv → Prop} {T : List PyData → Prop} (ha : Pa K [c] cs Γ ta TA') (kk : ∀ l, TA' l → ∃ i, l = ts i ∧ (∀ t, t ∈ l → HPur t) ∧ ∀ r, R i r → ∃ ds, r = .fr ds ∧ T ds) : Pf K [c] cs Γ (tCall (Pro K [c] ts R) [] E ta) T := fun M bs ls σ H S Q q =>
  ha M bs ls σ H S _ fun ts' vs H1 e S1 k1 hv => by
    obtain ⟨i, rfl, hp, hr⟩ := kk ts' e
    rw [List.append_nil]
    obtain ⟨a, rfl⟩ := one_base S1.base
    refine ⟨i, _, [a], S1.calleeB hp hv, fun r v H2 h2 o cb k2 hv2 => ?_⟩
    obtain ⟨ds, rfl, hT⟩ := hr r h2
    obtain ⟨p, ws, rfl, n, h3, h4⟩ := hv2
    have np := S1.new n
    have kw : Kp [a] ls H1 H2 := k2.wide
    have S2 := S1.afterB o cb k2
    have g : Ex (hid (ls ++ ([a] ++ M)) H1) (hid (ls ++ ([a] ++ (p :: M))) H2) := fun b o e => by
      obtain ⟨a1, a2⟩ := hid_at e
      have nb : b ≠ p := fun z => by rw [z, n] at a2; cases a2
      rw [hid_of fun z => a1 (mem4 nb z)]
      exact kw.k b o (fun z => a1 (List.mem_append_left _ z)) (fun z => a1 (List.mem_append_right _ (List.mem_append_left _ z))) a2
    have na : ∀ x, x ∈ ls → x ∉ [a] := fun x hx z => (List.nodup_append.mp S1.nd).2.2 x hx x z rfl
    refine q ds ws p H2 hT (k1.free n) ⟨S2.nd, fun x h z => ?_, fun m h => ?_, ?_, S1.cell.ex g fun x u hx e => k2.k x u (by simp) (na x hx) e, S1.env.ex g⟩ (k1.trans kw) h3 (DqAll.ex (hid_more fun x m => ?_) _ _ h4)
    · rcases List.mem_cons.mp z with w | w
      · rw [w] at h
        rcases List.mem_append.mp h with y | y
        · exact np.1 y
        · exact np.2.1 y
      · exact S2.dis x h w
    · rcases List.mem_cons.mp h with w | w
      · rw [w, h3]
        exact lv_lst
      · exact S2.old m w
    · exact cb.ex (hid_more fun x m => by
        simp only [own, List.mem_append, List.mem_cons, List.not_mem_nil, or_false] at m ⊢
        rcases m with m | m | m | m
        · exact .inr (.inr (.inl m))
        · exact .inr (.inl m)
        · exact .inl m
        · exact .inr (.inr (.inr m))) fun _ _ _ e => e
    · simp only [List.mem_append, List.mem_cons, List.not_mem_nil, or_false] at m ⊢
      rcases m with m | m | m | m
      · exact .inr (.inr (.inl m))
      · exact .inr (.inl m)
      · exact .inl m
      · exact .inr (.inr (.inr m))
/-- _law_pick of any list of a kind -/
theorem pn_pickG {te : TE} {j : Nat} {D : List PyData → Prop} {G : PyData → Prop} (h : Γ[j]? = some (.bas 0)) (hd : Pn K [handC K] cs Γ te (fun t => ∃ ds, D ds ∧ t = .d (.list ds))) (hD : ∀ ds, D ds → 1 ≤ ds.length ∧ ds.length ≤ 1000 ∧ ∀ d, d ∈ ds → G d) : Pn K [handC K] cs Γ (tCall (spPk K) [] E (tCons (tVar j) (tCons te tNil))) (fun t => ∃ d, G d ∧ t = .d d) :=
  pn_callBG (qa_consG (pb h) (qa_consG hd qa_nil)) fun l ⟨t, ts, e1, ⟨t2, ts2, ⟨ds, hds, e4⟩, e5, e6⟩, e7⟩ => by
    obtain ⟨h1, h2, h3⟩ := hD ds hds
    subst e1 e4 e5 e6 e7
    exact ⟨(⟨ds, h1, h2⟩ : PkI), rfl, fun t m => by simp at m; rcases m with rfl | rfl <;> trivial, fun r ⟨d, hd, e⟩ => by rw [e]; exact ⟨trivial, d, h3 d hd, rfl⟩⟩
theorem pn_drawJ {tn : TE} {n j : Nat} (h : Γ[j]? = some (.bas 0)) (hn : Pn K [handC K] cs Γ tn (· = .d (iD n))) (pos : 1 ≤ n) (few : n ≤ 1000000000) : Pn K [handC K] cs Γ (tCall (spDr K) [] E (tCons (tVar j) (tCons tn tNil))) (fun t => ∃ k : Nat, k < n ∧ t = .d (iD k)) :=
  pn_callB (⟨n, pos, few⟩ : DrI) (qa_cons (pb h) (qa_cons hn qa_nil)) (fun t m => by simp at m; rcases m with rfl | rfl <;> trivial) fun r ⟨k, hk, e⟩ => by rw [e]; exact ⟨trivial, k, hk, rfl⟩
/-- refused as is due -/
theorem pn_rf {ta tb : TE} {β : List Nat} {B : T3 → Bool} {d : PyData} (bl : Bks β) (few : ∀ l, itemsD d = some l → l.length ≤ 100) (h : Pn K bc cs Γ ta (· = .sem (bookS K β B))) (g : Pn K bc cs Γ tb (· = .d d)) (hd : tvA d = .d d) : Pn K bc cs Γ (tCall (spRf K) [] E (tCons ta (tCons tb tNil))) (· = .d (dueP β d)) :=
  pn_call (⟨β, B, d, bl, few⟩ : RtI) (qa_cons h (qa_cons (g.mono fun t e => by rw [e]; exact hd.symm) qa_nil)) (fun t m => by
    simp at m
    rcases m with rfl | rfl
    · trivial
    · exact tvA_pur d) fun r e => by rw [e]; exact ⟨trivial, rfl⟩
theorem qt_due {ta tb tc : TE} {β : List Nat} {B : T3 → Bool} {es : List PyData} (bl : Bks β) (few : es.length ≤ 100) (two : ∀ d, d ∈ es → TwoB d) (h : Pn K bc cs Γ ta (· = .sem (bookS K β B))) (g : Pn K bc cs Γ tb (· = .d (.list es))) (g2 : Pn K bc cs Γ tc (· = .d (.list (isD β)))) :
    Pt K bc cs Γ (tTest (tOp (rNeD K) (tCall (spRf K) [] E (tCons ta (tCons tb tNil))) (tCall (spDu K) [] E (tCons tc (tCons tb tNil))))) (· = false) := by
  obtain ⟨s1, s2⟩ := due_sh β es
  refine (qt_of (pd_op (u := .d (dueF β es)) (pn_rf (d := .list es) bl (fun l e => by cases e; exact few) h g rfl) ?_ (ro_ne s1 s1))).mono fun t e => by rw [e]; show (!PyData.eqv (dueF β es) (dueF β es)) = false; rw [s2]; rfl
  exact pn_call (⟨β, es, bl, few, two⟩ : DuI) (qa_cons g2 (qa_cons g qa_nil)) (fun t m => by simp at m; rcases m with rfl | rfl <;> trivial) fun r e => by rw [e]; exact ⟨trivial, rfl⟩
end
/-- an odd thing among good couples -/
theorem due_odd {m : Nat} {x : PyData} {k : Nat} {β : List Nat} (hβ : β.length = m) (hk : k < m) (hx : cplD m x = none) :
    dueF β (((List.range m).map fun t => (PyData.tuple [iD t, iD t])).take k ++ [x] ++ ((List.range m).map fun t => (PyData.tuple [iD t, iD t])).drop k) = .tuple [iD k, .str "pair"] := by
  subst hβ
  generalize hg : (List.range β.length).map (fun t => (PyData.tuple [iD t, iD t])) = gd
  have hlen : gd.length = β.length := by rw [← hg]; simp
  have hat : ∀ i, i < k → (gd.take k ++ [x] ++ gd.drop k)[i]? = some (.tuple [iD i, iD i]) := fun i hi => by
    rw [List.append_assoc, List.getElem?_append_left (by rw [List.length_take]; omega), List.getElem?_take_of_lt hi, ← hg, range_map_at (by omega)]
  have hc : ∀ i, i < k → cplD β.length (.tuple [iD i, iD i]) = some (i, i) := fun i hi => by
    have g1 : goodE β.length (iD i) = true := by simp [goodE]; omega
    show (if (goodE β.length (iD i) && goodE β.length (iD i)) = true then some (natD (iD i), natD (iD i)) else none) = _
    rw [g1]
    rfl
  have hp : ∀ i, i ≤ k → prs β.length (gd.take k ++ [x] ++ gd.drop k) i = (List.range i).map fun t => (t, t) := by
    intro i
    induction i with
    | zero => intro _; rfl
    | succ i ih =>
      intro hi
      rw [prs_succ (hat i (by omega)) (hc i (by omega)), ih (by omega), List.range_succ, List.map_append]
      rfl
  refine due_kind (fun j hj => ?_) ?_
  · unfold kind
    rw [hat j hj]
    dsimp only
    rw [hc j hj]
    dsimp only
    rw [hp j (by omega), if_neg]
    simp [fsts, snds]
  · unfold kind
    rw [List.append_assoc, List.getElem?_append_right (by rw [List.length_take]; omega), List.length_take, Nat.min_eq_left (by omega), Nat.sub_self]
    show (match cplD β.length x with | none => some ("pair" : Str) | some p => _) = _
    rw [hx]
end Z
set_option Elab.async false
set_option linter.all false
set_option maxRecDepth 100000
set_option maxHeartbeats 2000000
namespace Z
open PySem PySem.Spec PyProof.Rows L2
section
variable {P : Program} {w : World} {K : PySem.W.Frag} {bc cs : List Cell} {Γ : List Tv} {E : XK} {N : List Cell → List Cell → List Tv → Prop} {R : List Cell → Rv → Prop} {X : Xv → Prop} {mg : Str → Option Value}
/-! ### _law_refusals_right -/
abbrev rrTs (K : PySem.W.Frag) : WoI → List Tv := fun x => [.bas 0, .sem (bookS K x.β x.B), .d (.list (isD x.β))]
abbrev rrR : WoI → Rv → Prop := fun _ r => r = .tv (.d (.bool true))
abbrev spRr (K : PySem.W.Frag) : Sp := Pro K [handC K] (rrTs K) rrR
def Tws (l : List PyData) : Prop := ∀ d, d ∈ l → TwoB d
theorem Tws.perm {l m : List PyData} (h : Tws l) (p : List.Perm m l) : Tws m := fun d hd => h d (p.mem_iff.mp hd)
theorem twoB_list {x y : PyData} (hx : IntB x) (hy : IntB y) : TwoB (.list [x, y]) := ⟨x, y, rfl, hx, hy⟩
theorem Tws.snoc {l : List PyData} {d : PyData} (h : Tws l) (hd : TwoB d) : Tws (l ++ [d]) := fun e he => by
  rcases List.mem_append.mp he with z | z
  · exact h e z
  · rw [List.mem_singleton.mp z]; exact hd
theorem tws_enum {r : List Nat} : Tws (enD (isD r)) := fun d hd => by
  obtain ⟨i, hi⟩ := List.mem_iff_getElem?.mp hd
  obtain ⟨x, hx, rfl⟩ := enD_get hi
  obtain ⟨_, rfl⟩ := isD_get hx
  exact ⟨_, _, rfl, intB_nat _, intB_nat _⟩
/-- a draw compared with 0 -/
theorem qt_draw0 {n j : Nat} {k : Int} (hk : k = n) (h : Γ[j]? = some (.bas 0)) (pos : 1 ≤ n) (few : n ≤ 1000000000) : Pt K [handC K] cs Γ (tTest (tOp (rEqD K) (tCall (spDr K) [] E (tCons (tVar j) (tCons (tC (.int k)) tNil))) (tC (.int 0)))) (fun _ => True) := by
  subst hk
  refine qt_any (pn_op (T1 := fun t => ∃ k : Nat, k < n ∧ t = .d (iD k)) (T2 := (· = .d (.int 0))) (pn_drawJ h pc_int pos few) pc_int fun t u ht hu => ?_)
  obtain ⟨j, _, rfl⟩ := ht
  subst hu
  exact (ro_eq sh_int sh_int).mono fun t e => ⟨_, trivial, e⟩
theorem tr_cut {t u : TS} {Nm : List Cell → List Cell → List Tv → Prop} (h : Tr K bc cs Γ E t Nm R X) (k : ∀ b c g, Nm b c g → Tr K b c g E u N R X) : Tr K bc cs Γ E (tSeq t u) N R X := tr_seq (h.mono k (fun _ _ h => h) fun _ h => h)
theorem tr_refusals_right (x : WoI) : Trp K [handC K] E (t_law_refusals_right K (spShf K) (spPk K) (spDr K) (spRf K) (spDu K) (spOr K) (spPko K)) 7 (rrTs K) rrR x := by
  obtain ⟨β, B, bl, cl⟩ := x
  have hm := bl.hi
  have hlo := bl.lo
  refine tr_seq (tr_set (t := .d (iD β.length)) (by rw [← isD_len (l := β)]; exact pn_lenD (pd rfl)) ?_)
  refine tr_seq (tr_newL (pf_lstD (ds := []) qa_nil (by decide)) fun ds e => ?_)
  subst e
  refine tr_seq (tr_for (si_rng1 (n := β.length) (pd rfl) (by omega)) (fun _ i b c γ => b = [handC K] ∧ Wk γ [.bas 0, .sem (bookS K β B), .d (.list (isD β)), .d (iD β.length), .cel 0, .any, .any, .any, .any, .any] ∧ ∃ l, c = [lstC K l] ∧ Tws l ∧ l.length = i) (fun ds e => ⟨rfl, Wk.refl _, [], rfl, fun d h => (by cases h), rfl⟩) ?_ ?_)
  · rintro ds i y b c γ rfl hy ⟨rfl, hw, l, rfl, hl, hlen⟩
    obtain ⟨hi, rfl⟩ := rgD_get hy
    rw [Nat.zero_add]
    refine ⟨_, _, tg_name, tr_wk (wk_set hw) ?_⟩
    have hb : [Tv.bas 0, .sem (bookS K β B), .d (.list (isD β)), .d (iD β.length), .cel 0, .d (iD i), .any, .any, .any, .any][0]? = some (Tv.bas 0) := rfl
    have hpick := pn_pickG (E := E0) (cs := [lstC K l]) (D := fun ds => ∃ k : Nat, ds = [iD i, iD i, iD i, iD k, iD β.length, .bool true]) (G := IntB) hb ((pf_lst (K := K) (bc := [handC K]) (cs := [lstC K l]) (T := fun ds => ∃ k : Nat, ds = [iD i, iD i, iD i, iD k, iD β.length, .bool true])
      ((qa_consG (pd (i := 5) rfl) (qa_consG (pd (i := 5) rfl) (qa_consG (pd (i := 5) rfl) (qa_consG (pn_draw (E := E0) hb (pd (i := 3) (x := iD β.length) rfl) (by omega) (by omega)) (qa_consG (pd (i := 3) rfl) (qa_consG (pc_bl (i := true)) qa_nil)))))).mono (by
        rintro ts ⟨t1, u1, rfl, ⟨t2, u2, rfl, ⟨t3, u3, rfl, ⟨t4, u4, ⟨k, _, rfl⟩, ⟨t5, u5, rfl, ⟨t6, u6, rfl, rfl, rfl⟩, rfl⟩, rfl⟩, rfl⟩, rfl⟩, rfl⟩
        exact ⟨_, ⟨k, rfl⟩, rfl⟩)) (by rintro ds ⟨k, rfl⟩; simp)).pn) (by
        rintro ds ⟨k, rfl⟩
        refine ⟨by simp, by simp, fun d hd => ?_⟩
        simp at hd
        rcases hd with rfl | rfl | rfl | rfl
        · exact intB_nat _
        · exact intB_nat _
        · exact intB_nat _
        · exact .inr ⟨true, rfl⟩)
    refine tr_append (T := fun t => ∃ x, IntB x ∧ t = .d (.list [iD i, x])) (k := 0) rfl rfl (by omega) ?_ ?_
    · refine (pf_lst (T := fun ds => ∃ x, IntB x ∧ ds = [iD i, x]) ((qa_consG (pd rfl) (qa_consG hpick qa_nil)).mono ?_) (by rintro ds ⟨x, _, rfl⟩; simp)).pn.mono ?_
      · rintro ts ⟨t1, u1, rfl, ⟨t2, u2, ⟨x, hx, rfl⟩, rfl, rfl⟩, rfl⟩
        exact ⟨_, ⟨x, hx, rfl⟩, rfl⟩
      · rintro t ⟨ds, ⟨x, hx, rfl⟩, rfl⟩
        exact ⟨x, hx, rfl⟩
    · rintro t ⟨x, hx, rfl⟩
      exact ⟨_, rfl, rfl, ⟨.inr rfl, .inr rfl, .inr rfl, .inr rfl, .inr rfl, .inl rfl, .inr rfl, .inr rfl, .inr rfl, .inr rfl, trivial⟩, _, rfl, hl.snoc (twoB_list (intB_nat _) hx), by rw [List.length_append, hlen]; rfl⟩
  rintro ds b c γ rfl ⟨rfl, hw, l, rfl, hl, hlen⟩
  rw [rgD_len] at hlen
  refine tr_wk hw (tr_freeze (cs := []) ?_)
  -- shuffled
  refine tr_seq (tr_newL (T := fun es => List.Perm es l) (pf_callB (⟨l, by omega⟩ : FwI) (qa_cons (pb rfl) (qa_cons (pd rfl) qa_nil)) (fun t m => by simp at m; rcases m with rfl | rfl <;> trivial) fun r ⟨es, hp, e⟩ => ⟨es, e, hp⟩) fun es hp => ?_)
  have hes := hl.perm hp
  have hesl : es.length = β.length := by rw [hp.length_eq]; exact hlen
  refine tr_cut (Nm := fun b c g => b = [handC K] ∧ g = [.bas 0, .sem (bookS K β B), .d (.list (isD β)), .d (iD β.length), .cel 0, .any, .any, .any, .any, .any] ∧ ∃ es, c = [lstC K es] ∧ Tws es ∧ es.length ≤ 4) (tr_ifG (qt_draw0 (n := 3) rfl rfl (by decide) (by decide)) (fun _ => ?_) fun _ => tr_next ⟨rfl, rfl, es, rfl, hes, by omega⟩) ?_
  · refine tr_pop (k := 0) rfl rfl (fun z => ?_) ⟨rfl, rfl, es.dropLast, rfl, fun d hd => hes d (List.dropLast_subset _ hd), by rw [List.length_dropLast]; omega⟩
    rw [z] at hesl
    simp at hesl
    omega
  rintro b c g ⟨rfl, rfl, es2, rfl, hes2, hl2⟩
  refine tr_cut (Nm := fun b c g => b = [handC K] ∧ g = [.bas 0, .sem (bookS K β B), .d (.list (isD β)), .d (iD β.length), .cel 0, .any, .any, .any, .any, .any] ∧ ∃ es, c = [lstC K es] ∧ Tws es ∧ es.length ≤ 5) (tr_ifG (qt_draw0 (n := 4) rfl rfl (by decide) (by decide)) (fun _ => ?_) fun _ => tr_next ⟨rfl, rfl, es2, rfl, hes2, by omega⟩) ?_
  · have hb : [Tv.bas 0, .sem (bookS K β B), .d (.list (isD β)), .d (iD β.length), .cel 0, .any, .any, .any, .any, .any][0]? = some (Tv.bas 0) := rfl
    have dr := pn_draw (K := K) (E := E0) (cs := [lstC K es2]) hb (pd (i := 3) (x := iD β.length) rfl) (by omega) (by omega)
    refine tr_append (T := fun t => ∃ x y : Nat, t = .d (.list [iD x, iD y])) (k := 0) rfl rfl (by omega) ?_ ?_
    · refine (pf_lst (T := fun ds => ∃ x y : Nat, ds = [iD x, iD y]) ((qa_consG dr (qa_consG dr qa_nil)).mono ?_) (by rintro ds ⟨x, y, rfl⟩; simp)).pn.mono ?_
      · rintro ts ⟨t1, u1, ⟨x, _, rfl⟩, ⟨t2, u2, ⟨y, _, rfl⟩, rfl, rfl⟩, rfl⟩
        exact ⟨_, ⟨x, y, rfl⟩, rfl⟩
      · rintro t ⟨ds, ⟨x, y, rfl⟩, rfl⟩
        exact ⟨x, y, rfl⟩
    · rintro t ⟨x, y, rfl⟩
      exact ⟨_, rfl, rfl, rfl, _, rfl, hes2.snoc (twoB_list (intB_nat _) (intB_nat _)), by rw [List.length_append]; simp; omega⟩
  rintro b c g ⟨rfl, rfl, es3, rfl, hes3, hl3⟩
  refine tr_freeze (cs := []) ?_
  refine tr_skip (qt_due bl (by omega) hes3 (ps rfl) (pd rfl) (pd rfl)) rfl ?_
  -- turned
  refine tr_seq (tr_asg (T := fun t => ∃ es, (∃ r, Row β.length β.length r ∧ List.Perm es (enD (isD r))) ∧ t = .d (.list es)) (pf_callBG (T := fun es => ∃ r, Row β.length β.length r ∧ List.Perm es (enD (isD r))) (qa_consG (pb rfl) (qa_consG (pf_listZipR (n := β.length) (T := fun ds => ∃ r, Row β.length β.length r ∧ ds = isD r) (pd rfl) (by omega) ?_).pn qa_nil)) ?_).pn ?_)
  · refine (pn_pickG (D := fun ds => ds = (ordK β.length β.length).map rowL) (G := fun d => ∃ r, Row β.length β.length r ∧ d = rowL r) rfl (pn_call (T := fun t => ∃ ds, ds = (ordK β.length β.length).map rowL ∧ t = .d (.list ds)) (⟨β.length, hlo, hm⟩ : MnI) (qa_cons (pd rfl) qa_nil) (fun t m => by simp at m; rw [m]; trivial) fun r e => by rw [e]; exact ⟨trivial, _, rfl, rfl⟩) ?_).mono ?_
    · rintro ds rfl
      refine ⟨?_, ?_, fun d hd => ?_⟩
      · rw [List.length_map]
        exact List.length_pos_of_mem (ord_iff.mpr (nam_row (id_nam bl)))
      · rw [List.length_map]
        exact Nat.le_trans (ord_few hm (Nat.le_refl _)) (by decide)
      · obtain ⟨r, hr, rfl⟩ := List.mem_map.mp hd
        exact ⟨r, ord_row hr, rfl⟩
    · rintro t ⟨d, ⟨r, hr, rfl⟩, rfl⟩
      exact ⟨isD r, by rw [isD_len, hr.1], ⟨r, hr, rfl⟩, rfl⟩
  · rintro l ⟨t, ts, e1, ⟨t2, ts2, ⟨ds, ⟨es, ⟨r, hr, e3⟩, e4⟩, e5⟩, e6, e7⟩, e8⟩
    subst e1 e3 e4 e5 e6 e7 e8
    refine ⟨(⟨enD (isD r), by rw [enD_len, isD_len, hr.1]; omega⟩ : FwI), rfl, fun t m => by simp at m; rcases m with rfl | rfl <;> trivial, fun r' hr' => ?_⟩
    obtain ⟨es, hp, e⟩ := hr'
    exact ⟨es, e, r, hr, hp⟩
  rintro t ⟨es4, ⟨r, hr, hp4⟩, rfl⟩
  have hes4 : Tws es4 := tws_enum.perm hp4
  have hl4 : es4.length ≤ 100 := by rw [hp4.length_eq, enD_len, isD_len, hr.1]; omega
  refine tr_skip (qt_due bl hl4 hes4 (ps rfl) (pd rfl) (pd rfl)) rfl ?_
  -- an odd thing
  refine tr_seq (tr_asg (T := fun t => ∃ d, cplD β.length d = none ∧ t = .d d) (pn_pickG (D := fun ds => ds = [.none, .tuple [.int 0], .list [.int 0, .int 1, .int 0], .str "01", .int 5]) (G := fun d => cplD β.length d = none) rfl ((pf_lstD (ds := [.none, .tuple [.int 0], .list [.int 0, .int 1, .int 0], .str "01", .int 5]) (qa_cons pc_non (qa_cons (pn_tup (ds := [.int 0]) (qa_cons pc_int qa_nil) (by simp)) (qa_cons (pf_lstD (ds := [.int 0, .int 1, .int 0]) (qa_cons pc_int (qa_cons pc_int (qa_cons pc_int qa_nil))) (by simp)).pd (qa_cons pc_str (qa_cons pc_int qa_nil))))) (by simp)).pn) ?_) ?_)
  · rintro ds rfl
    refine ⟨by simp, by simp, fun d hd => ?_⟩
    simp at hd
    rcases hd with rfl | rfl | rfl | rfl | rfl <;> rfl
  rintro t ⟨odd, hodd, rfl⟩
  refine tr_seq (tr_asg (T := fun t => ∃ k : Nat, k < β.length ∧ t = .d (iD k)) (pn_draw rfl (pd (x := iD β.length) rfl) (by omega) (by omega)) ?_)
  rintro t ⟨k, hk, rfl⟩
  refine tr_wk (Γ' := [.bas 0, .sem (bookS K β B), .d (.list (isD β)), .d (iD β.length), .any, .any, .any, .d odd, .d (iD k), .any]) ⟨.inr rfl, .inr rfl, .inr rfl, .inr rfl, .inl rfl, .inl rfl, .inl rfl, .inr rfl, .inr rfl, .inl rfl, trivial⟩ ?_
  generalize hgd : (List.range β.length).map (fun t => (PyData.tuple [iD t, iD t])) = gd
  have hgl : gd.length = β.length := by rw [← hgd]; simp
  refine tr_seq (tr_newL (T := (· = gd)) (pf_map (ds := rgD 0 β.length) (si_rng1 (n := β.length) (pd rfl) (by omega)) (by rw [rgD_len]; omega) (by rw [rgD_len]; exact hgl) rfl fun j d hd => ?_) fun ds e => ?_)
  · obtain ⟨hj, rfl⟩ := rgD_get hd
    rw [Nat.zero_add]
    exact ⟨.tuple [iD j, iD j], by rw [← hgd]; exact range_map_at hj, pn_tup (ds := [iD j, iD j]) (qa_cons (pd rfl) (qa_cons (pd rfl) qa_nil)) (by simp)⟩
  subst e
  refine tr_seq (tr_insert (I := fun n => n = k) (T := fun u => u = .d odd) (k := 0) rfl rfl (by rw [hgl]; omega) ((pd rfl).mono fun t e => ⟨k, rfl, e⟩) (fun n e => by omega) (pd rfl) ?_)
  rintro n _ rfl rfl
  refine ⟨odd, rfl, ?_⟩
  have hdue := due_odd (β := β) rfl hk hodd
  rw [hgd] at hdue
  have hil : (ds.take n ++ [odd] ++ ds.drop n).length ≤ 100 := by
    simp
    omega
  generalize hit : ds.take n ++ [odd] ++ ds.drop n = items at hdue hil
  show Tr K [handC K] ([] ++ [lstC K items]) _ E _ _ _ _
  refine tr_freeze (cs := []) ?_
  have hw : WordOk "pair" := (by decide +kernel : (PyData.str "pair").canLay0 = true)
  refine tr_skip (qt_of ((pd_op (pn_rf (d := .list items) bl (fun l e => by cases e; exact hil) (ps (s := bookS K β B) rfl) (pd rfl) rfl) (pn_tup (ds := [iD n, .str "pair"]) (qa_cons (pd rfl) (qa_cons pc_str qa_nil)) (by simp)) (ro_ne (due_sh β items).1 (sh_kS hw))).mono fun t e => by
    rw [e]
    show Tv.d (.bool (!PyData.eqv (dueF β items) (.tuple [iD n, .str "pair"]))) = .d (.bool false)
    rw [hdue, eqv_kS hw]
    rfl)) rfl ?_
  have hw2 : WordOk "pairs" := (by decide +kernel : (PyData.str "pairs").canLay0 = true)
  refine tr_retD (x := .bool true) (pn_op (T1 := (· = .d (.tuple [iD 0, .str "pairs"]))) (pn_callG (qa_consG (ps (s := bookS K β B) rfl) (qa_consG (pn_callB (T := fun t => ∃ d, d ∈ oddL ∧ t = tvA d) () (qa_cons (pb rfl) (qa_cons pn_odd qa_nil)) (fun t m => by simp at m; rcases m with rfl | rfl <;> trivial) fun r ⟨d, hd, e⟩ => by rw [e]; exact ⟨tvA_pur d, d, hd, rfl⟩) qa_nil)) ?_) (pn_tup (ds := [iD 0, .str "pairs"]) (qa_cons pc_int (qa_cons pc_str qa_nil)) (by simp)) ?_) ⟨rfl, rfl⟩
  · rintro l ⟨t, ts, rfl, ⟨t2, ts2, ⟨d, hd, rfl⟩, rfl, rfl⟩, rfl⟩
    have hn : itemsD d = none := by
      simp [oddL] at hd
      rcases hd with rfl | rfl | rfl | rfl <;> rfl
    refine ⟨(⟨β, B, d, bl, fun l e => by rw [hn] at e; cases e⟩ : RtI), rfl, fun t m => ?_, fun r e => ?_⟩
    · simp at m
      rcases m with rfl | rfl
      · trivial
      · exact tvA_pur d
    · rw [e]
      refine ⟨trivial, ?_⟩
      show Tv.d (dueP β d) = _
      unfold dueP
      rw [hn]
  · rintro t u rfl rfl
    exact (ro_eq (sh_kS hw2) (sh_kS hw2)).mono fun t e => by rw [e, eqv_kS hw2]
end
end Z
set_option Elab.async false
set_option linter.all false
set_option maxRecDepth 100000
set_option maxHeartbeats 1000000
namespace Z
open PySem PySem.Spec PyProof.Rows L2
section
variable {P : Program} {w : World} {K : PySem.W.Frag} {bc cs : List Cell} {Γ : List Tv} {E : XK} {N : List Cell → List Cell → List Tv → Prop} {R : List Cell → Rv → Prop} {X : Xv → Prop} {mg : Str → Option Value}
/-! ### the hand becomes our base cell -/
theorem Env.base {bs ls : List Addr} {p : Addr} {H : Hp} : ∀ {σ : List (Option V)} {Γ : List Tv}, Env K [] ls H σ Γ → Env K [p] ls H σ Γ
  | [], [], h => h
  | o :: σ, t :: Γ, h => by
    refine ⟨?_, Env.base (bs := bs) h.2⟩
    have h1 := h.1
    cases t with
    | any => trivial
    | d x => exact h1
    | cel k => exact h1
    | sem s => exact h1
    | bas k =>
      obtain ⟨v, e, a, ea, ev⟩ := h1
      simp at ea
  | [], _ :: _, h => h.elim
  | _ :: _, [], h => h.elim
theorem tr_toBase {te : TE} {i : Nat} {u : TS} {x : PyData} (h : Pf K [] [] Γ te (fun ds => ∃ c i r t, ds = handL c i r t)) (k : Tr K [handC K] [] (Γ.set i (.bas 0)) E u (fun _ _ _ => False) (fun b r => b = [handC K] ∧ r = .tv (.d x)) (fun _ => False)) :
    Tr K [] [] Γ E (tSeq (tAsg te (gName i)) u) N (fun b r => b = [] ∧ r = .tv (.d x)) X := fun M bs ls σ H S D q r xx => by
  have e1 : ls = [] := List.eq_nil_of_length_eq_zero S.cell.len
  have e2 : bs = [] := List.eq_nil_of_length_eq_zero S.base.len
  subst e1 e2
  refine h M [] [] σ H S _ fun ds vs p H1 ht n S1 k1 hp ha => ?_
  have np : p ∉ M := (S.new n).2.2
  obtain ⟨c, i0, rr, t, rfl⟩ := ht
  have S2 : St K [handC K] [] (Γ.set i (.bas 0)) M [p] [] (σ.set i (some (.ref p))) H1 := by
    refine ⟨by simp, fun a m z => ?_, fun m hm => S1.old m (List.mem_cons_of_mem _ hm), ⟨⟨.lst vs, hp, c, i0, rr, t, vs, rfl, ha⟩, trivial⟩, trivial, ?_⟩
    · have m' : a = p := by simpa using m
      rw [m'] at z
      exact np z
    · refine Env.set (t := .bas 0) ⟨p, rfl, rfl⟩ i (Env.base (bs := []) ?_)
      exact S1.env
  refine k M [p] [] _ H1 S2 D (fun _ _ _ _ _ _ z => z.elim) (fun b r' v H' hr o cb k' hv => ?_) fun _ _ _ z => z.elim
  obtain ⟨rfl, rfl⟩ := hr
  refine r [] _ v H' ⟨rfl, rfl⟩ o trivial ⟨fun b o h1 h2 e => ?_, fun b e => k'.d b (k1.d b e)⟩ ?_
  · have nb : b ≠ p := fun z => by rw [z, n] at e; cases e
    exact k'.k b o (by simp) (by simp [nb]) (k1.k b o h1 h2 e)
  · exact Dq.ex (hid_more fun a m => List.mem_append_right _ m) _ _ hv
/-! ### couples, shuffled and shaped -/
def pr2 (r : List Nat) (t : Nat) : PyData := .tuple [iD t, iD (bk r t)]
def unT : PyData → Nat
  | .tuple (.int z :: _) => z.toNat
  | _ => 0
theorem unT_pr {r : List Nat} {t : Nat} : unT (pr2 r t) = t := by
  show ((t : Nat) : Int).toNat = t
  simp
theorem perm_pr {r l : List Nat} {es : List PyData} (h : List.Perm es (l.map (pr2 r))) : ∃ ts, List.Perm ts l ∧ es = ts.map (pr2 r) := by
  refine ⟨es.map unT, ?_, ?_⟩
  · have := h.map unT
    rw [List.map_map] at this
    have e : l.map (unT ∘ pr2 r) = l := (List.map_congr_left (g := fun t => t) fun t _ => unT_pr).trans (List.map_id' l)
    rw [e] at this
    exact this
  · rw [List.map_map]
    refine ((List.map_congr_left (f := pr2 r ∘ unT) (g := fun d => d) fun d hd => ?_).trans (List.map_id' es)).symm
    obtain ⟨t, _, rfl⟩ := List.mem_map.mp (h.mem_iff.mp hd)
    show pr2 r (unT (pr2 r t)) = pr2 r t
    rw [unT_pr]
theorem cpl_pr {β r : List Nat} (hrow : Row β.length β.length r) {t : Nat} (ht : t < β.length) {d : PyData} (h : itemsD d = some [iD t, iD (bk r t)]) : cplD β.length d = some (t, bk r t) := by
  have g1 : goodE β.length (iD t) = true := by simp [goodE, ht]
  have g2 : goodE β.length (iD (bk r t)) = true := by simp [goodE, row_lt hrow ht]
  unfold cplD
  rw [h]
  dsimp only
  rw [g1, g2]
  rfl
theorem cps_of {β r ts : List Nat} {l : List PyData} (bl : Bks β) (hr : r ∈ namings β) (hp : List.Perm ts (List.range β.length)) (hl : l.length = ts.length) (h : ∀ (i : Nat) (t : Nat), ts[i]? = some t → ∃ d, l[i]? = some d ∧ itemsD d = some [iD t, iD (bk r t)]) : Cps β r ts l := by
  have hlt : ∀ t, t ∈ ts → t < β.length := fun t m => List.mem_range.mp (hp.mem_iff.mp m)
  refine ⟨bl, hr, hp.nodup_iff.mpr List.nodup_range, hlt, by rw [hp.length_eq, List.length_range], hl, fun i t ht => ?_⟩
  obtain ⟨d, hd, e⟩ := h i t ht
  exact ⟨d, hd, cpl_pr (nam_row hr) (hlt t (List.mem_of_getElem? ht)) e⟩
/-- book.renamed_ties(any couples of the naming) -/
theorem pn_renamedG {te ta : TE} {β r ts : List Nat} {B : T3 → Bool} (bl : Bks β) (h : Pn K bc cs Γ te (· = .sem (bookS K β B))) (g : Pn K bc cs Γ ta (fun t => ∃ l, Cps β r ts l ∧ t = .d (.list l))) :
    Pn K bc cs Γ (tMeth (He.ga K "Book") "renamed_ties" (spRt K) [] E te (tCons ta tNil)) (· = .sem (bookS K β (ren β r B))) := fun M bs ls σ H S Q q =>
  h M bs ls σ H S _ fun u v H1 hu S1 k1 hv => by
    subst hu
    have hv0 := hv
    obtain ⟨a, o, rfl, ha0, dx, fs, rfl, hf⟩ := hv
    refine ⟨a, dx, fs, rfl, hid_ex _ _ ha0, hf.none (by kernel_rfl), qa_consG g qa_nil M bs ls σ H1 S1 _ fun ts' vs H2 e2 S2 k2 hvs => ?_⟩
    obtain ⟨t1, u1, ⟨l, c, rfl⟩, rfl, rfl⟩ := e2
    rw [List.append_nil]
    have hv2 : holds K bs ls (hid (ls ++ (bs ++ M)) H2) (.ref a) (.sem (bookS K β B)) := holds.ex (t := .sem (bookS K β B)) k2.ex hv0
    have hl : ∀ l', itemsD (.list l) = some l' → l'.length ≤ 100 := fun l' h' => by
      cases h'
      rw [c.len, c.full]
      have := c.bl.hi
      omega
    refine ⟨(⟨β, B, .list l, bl, hl⟩ : RtI), _, [], S2.callee0 (ts := [.sem (bookS K β B), .d (.list l)]) (fun t m => by simp at m; rcases m with rfl | rfl <;> trivial) ⟨hv2, hvs⟩, fun rr v H3 h3 o cb k3 hv3 => ?_, fun x d H3 h3 k3 n3 e3 => ?_⟩
    · have ex := k3.ex0
      obtain ⟨l', h1, h2, h4⟩ := h3
      have h1' : some l = some l' := h1
      cases h1'
      subst h4
      have e : nmL β (l.filterMap (cplD β.length)) = r := c.nmL
      have hv3' : holds K [] [] (hid ([] ++ (ls ++ (bs ++ M))) H3) v (.sem (bookS K β (ren β (nmL β (l.filterMap (cplD β.length))) B))) := hv3
      rw [e] at hv3'
      exact q _ v H3 rfl (S2.ex ex) ((k1.trans k2).trans (Kp.of_ex ex)) hv3'
    · obtain ⟨k, s, h1, h2⟩ := h3
      have h1' : dueF β l = .tuple [iD k, .str s] := h1
      rw [c.due] at h1'
      cases h1'
/-- a shaped couple -/
theorem pn_shape {te : TE} {x : List PyData} (h : Γ[1]? = some (.bas 0)) (g : Pn K [handC K] cs Γ te (· = .d (.tuple x))) : Pn K [handC K] cs Γ (tCall (spSh K) [] E (tCons (tVar 1) (tCons te tNil))) (fun t => ∃ d, itemsD d = some x ∧ t = .d d) := fun M bs ls σ H S Q q =>
  pn_callB (T := fun t => t = .d (.tuple x) ∨ t = .sem (sLst K x)) x (qa_cons (pb h) (qa_cons g qa_nil)) (fun t m => by simp at m; rcases m with rfl | rfl <;> trivial) (fun r e => by
    rcases e with rfl | rfl
    · exact .inr rfl
    · exact ⟨trivial, .inl rfl⟩) M bs ls σ H S Q fun t v H' ht S' k hv => by
      rcases ht with rfl | rfl
      · exact q _ v H' ⟨_, rfl, rfl⟩ S' k hv
      · exact q (.d (.list x)) v H' ⟨_, rfl, rfl⟩ S' k (sLst.d hv)
end
end Z
set_option Elab.async false
set_option linter.all false
set_option maxRecDepth 100000
set_option maxHeartbeats 2000000
namespace Z
open PySem PySem.Spec PyProof.Rows L2
section
variable {P : Program} {w : World} {K : PySem.W.Frag} {bc cs : List Cell} {Γ : List Tv} {E : XK} {N : List Cell → List Cell → List Tv → Prop} {R : List Cell → Rv → Prop} {X : Xv → Prop} {mg : Str → Option Value}
/-! ### what the law says within its loop -/
/-- a drawn table over β: three or four guests -/
theorem pn_table {tb tn : TE} {j : Nat} {β : List Nat} (bl : Bks β) (h : Γ[j]? = some (.bas 0)) (hb : Pn K [handC K] cs Γ tb (· = .d (.list (isD β)))) (hn : Pn K [handC K] cs Γ tn (fun t => ∃ d, (∃ n : Nat, 3 ≤ n ∧ n ≤ 4 ∧ d = iD n) ∧ t = .d d)) :
    Pn K [handC K] cs Γ (tCall (spDt K) [] E (tCons (tVar j) (tCons tb (tCons tn tNil)))) (fun t => ∃ n f, 3 ≤ n ∧ n ≤ 4 ∧ Tab β n f ∧ t = .d (tabD n f)) :=
  pn_callBG (qa_consG (pb h) (qa_consG hb (qa_consG hn qa_nil))) fun l ⟨t, ts, e1, ⟨t2, ts2, e2, ⟨t3, ts3, ⟨d, ⟨n, h3, h4, e5⟩, e6⟩, e7, e8⟩, e9⟩, e10⟩ => by
    subst e1 e2 e5 e6 e7 e8 e9 e10
    exact ⟨(⟨β, n, bl, h4⟩ : DtI), rfl, fun t m => by simp at m; rcases m with rfl | rfl | rfl <;> trivial, fun r ⟨f, hf, e⟩ => by rw [e]; exact ⟨trivial, n, f, h3, h4, hf, rfl⟩⟩
theorem tab_lt {β : List Nat} {n : Nat} {f : Nat → Nat → Nat} (bl : Bks β) (tab : Tab β n f) {i j : Nat} (hi : i < n) (hj : j < n) (ne : i ≠ j) : f i j < β.length := by
  rcases Nat.lt_or_ge j i with h | h
  · exact tab.lt i j h hi
  · have hji : i < j := by omega
    rw [tab.up j i hji hj]
    exact bl.lt _ (tab.lt j i hji hj)
/-- the table with the new names -/
theorem pf_turned {tt tn : TE} {β r : List Nat} {n a b : Nat} {f : Nat → Nat → Nat} (bl : Bks β) (hrow : Row β.length β.length r) (few : n ≤ 4) (tab : Tab β n f) (ht : Pn K bc cs Γ tt (· = .d (tabD n f)))
    (ha : wipeT Γ [a] = Γ) (hb : ∀ y, wipeT (Γ.set a y) [b] = Γ.set a y) (hab : ∀ y, (Γ.set a y)[a]? = some y) (hbb : ∀ y z, ((Γ.set a y).set b z)[b]? = some z)
    (hn : ∀ y z, Pn K bc cs ((Γ.set a y).set b z) tn (· = .d (rowL r))) :
    Pf K bc cs Γ (tLc (iSeq K tt) (gName a) tYes (tLc (iSeq K (tVar a)) (gName b) tYes (tIf (tTest (tOp rGe (tVar b) (tC (.int 0)))) (tOp (rIxLT K) tn (tVar b)) (tUn (rU fun i => .int (-i)) (tC (.int 1)))) [b]) [a]) (fun ds => PyData.list ds = tabD n (fun i j => bk r (f i j))) := by
  refine (pf_map (ds := (List.range n).map fun i => .list (tabRow n f i)) (es := (List.range n).map fun i => .list (tabRow n (fun i j => bk r (f i j)) i)) (si_seqL ht) (by simp; omega) (by simp) ha fun i d hd => ?_).mono fun ds e => by rw [e]; rfl
  obtain ⟨i', hi, rfl⟩ := map_at hd
  obtain ⟨hi1, hi2⟩ := List.getElem?_eq_some_iff.mp hi
  rw [List.length_range] at hi1
  rw [List.getElem_range] at hi2
  subst hi2
  refine ⟨_, range_map_at hi1, Pf.pd ?_⟩
  refine pf_map (ds := tabRow n f i) (es := tabRow n (fun i j => bk r (f i j)) i) (si_seqL (pd (hab _))) (by simp [tabRow]; omega) (by simp [tabRow]) (hb _) fun j d hd => ?_
  obtain ⟨j', hj, rfl⟩ := map_at hd
  obtain ⟨hj1, hj2⟩ := List.getElem?_eq_some_iff.mp hj
  rw [List.length_range] at hj1
  rw [List.getElem_range] at hj2
  subst hj2
  refine ⟨if i = j then .int (-1) else iD (bk r (f i j)), range_map_at hj1, ?_⟩
  by_cases e : i = j
  · rw [if_pos e, if_pos e]
    refine pn_if (b := false) (qt_of (pd_op (pd (hbb _ _)) pc_int ro_bl)) (fun z => by cases z) fun _ => pn_un (fun H Q q => ?_) pc_int
    exact ⟨1, rfl, q⟩
  · rw [if_neg e, if_neg e]
    have hlt := tab_lt bl tab hi1 hj1 e
    refine pn_if (b := true) (qt_of ((pd_op (pd (hbb _ _)) pc_int ro_bl).mono fun t z => ?_)) (fun _ => ?_) fun z => by cases z
    · rw [z]
      congr 2
    · exact pd_op (hn _ _) (pd (hbb _ _)) (ro_ixL (isD_atI (by rw [hrow.1]; exact hlt)))
/-- whether the renamed book lets the company is whether the table fits -/
theorem pn_letsFits {tr tc tf : TE} {β r g : List Nat} {B : T3 → Bool} {n : Nat} {f : Nat → Nat → Nat} (bl : Bks β) (cl : Clsd β B) (hr : r ∈ namings β) (tab : Tab β n f) (few : n ≤ 4) (c : CoI) (hβ : c.β = β) (hg : c.g.length = n) (hrows : c.rows = rowsOf n fun i j => bk r (f i j))
    (h : Pn K bc cs Γ tr (· = .sem (bookS K β (ren β r B)))) (h2 : Pn K bc cs Γ tc (· = .sem (coS K c.β c.g c.rows))) (h3 : Pn K bc cs Γ tf (· = .d (worldD β B))) {tt : TE} (h4 : Pn K bc cs Γ tt (· = .d (tabD n f))) :
    Pn K bc cs Γ (tCall (spPl K 4) [] E (tCons (tMeth (He.ga K "Book") "lets" (spLets K) [] E tr (tCons tc tNil)) (tCons (tCall (spFi K) [] E (tCons tf (tCons tt tNil))) tNil))) (· = .d (.bool true)) := by
  subst hβ
  have p1 : Pn K bc cs Γ (tMeth (He.ga K "Book") "lets" (spLets K) [] E tr (tCons tc tNil)) (fun t => ∃ v, t = .d (.bool v) ∧ (v = true ↔ fits B n f)) := by
    refine (pn_meth (T := fun t => ∃ v, t = .d (.bool v) ∧ (v = true ↔ free c (ren c.β r B))) (⟨c, ren c.β r B, bl⟩ : FauI) h (by kernel_rfl) (qa_cons h2 qa_nil) rfl (fun t m => by simp at m; rw [m]; trivial) fun rr ⟨v, e, hv⟩ => by rw [e]; exact ⟨trivial, v, rfl, hv⟩).mono fun t ⟨v, e, hv⟩ => ⟨v, e, hv.trans (lets_fits (g := g) bl cl hr tab c rfl hg hrows)⟩
  have p2 : Pn K bc cs Γ (tCall (spFi K) [] E (tCons tf (tCons tt tNil))) (fun t => ∃ v, t = .d (.bool v) ∧ (v = true ↔ fits B n f)) :=
    pn_call (⟨c.β, B, n, f, bl, few, tab⟩ : FiI) (qa_cons h3 (qa_cons h4 qa_nil)) (fun t m => by simp at m; rcases m with rfl | rfl <;> trivial) fun rr ⟨v, e, hv⟩ => by rw [e]; exact ⟨trivial, v, rfl, hv⟩
  refine pn_callG (T := (· = .d (.bool true))) (qa_consG p1 (qa_consG p2 qa_nil)) fun l ⟨t, ts, ⟨v, e1, hv⟩, ⟨t2, ts2, ⟨v2, e2, hv2⟩, e3, e4⟩, e5⟩ => ?_
  have ev : v = v2 := by rw [Bool.eq_iff_iff]; exact hv.trans hv2.symm
  subst e1 e2 e3 e4 e5 ev
  exact ⟨(⟨.bool v, .bl v⟩ : PlI 3), rfl, fun t m => by simp at m; rw [m]; trivial, fun rr e => by rw [e]; exact ⟨trivial, rfl⟩⟩
end
end Z
set_option Elab.async false
set_option linter.all false
set_option maxRecDepth 100000
set_option maxHeartbeats 2000000
namespace Z
open PySem PySem.Spec PyProof.Rows L2
open PySem.W (minD AlikeAll)
theorem pl_due {β : List Nat} {A B : T3 → Bool} (bl : Bks β) : Pl 3 (dueD β A B) := by
  unfold dueD
  cases q : (namings β).find? (hit β A B) with
  | none => exact .non
  | some r =>
    have hrow := nam_row (List.mem_of_find?_eq_some q)
    have hm := bl.hi
    refine .tup (fun d m => ?_) (by rw [List.length_map, List.length_range, hrow.1]; omega)
    obtain ⟨t, _, rfl⟩ := List.mem_map.mp m
    refine .tup (fun d m => ?_) (by simp)
    simp at m
    rcases m with rfl | rfl <;> exact .int _
theorem isNone_due {β : List Nat} {A B : T3 → Bool} : isNoneD (dueD β A B) = true ↔ dueD β A B = .none := by
  unfold dueD
  cases (namings β).find? (hit β A B) with
  | none => exact ⟨fun _ => rfl, fun _ => rfl⟩
  | some r => exact ⟨fun h => (by cases h), fun h => (by cases h)⟩
theorem least_due {β : List Nat} {A B : T3 → Bool} (bl : Bks β) (clA : Clsd β A) (clB : Clsd β B) : decide (leastL β A = leastL β B) = !isNoneD (dueD β A B) := by
  rw [Bool.eq_iff_iff, decide_eq_true_iff, least_iff bl clA clB, Bool.not_eq_true']
  constructor
  · intro h
    cases q : isNoneD (dueD β A B) with
    | false => rfl
    | true => exact absurd h (due_none.mp (isNone_due.mp q))
  · intro h
    by_cases z : ∃ r, r ∈ namings β ∧ barL β.length (ren β r A) = barL β.length B
    · exact z
    · rw [isNone_due.mpr (due_none.mpr z)] at h
      cases h
theorem lst_eqI {a b : List Nat} : PyData.eqv (.list (isD a)) (.list (isD b)) = decide (a = b) := by
  have na : ∀ a : List Nat, nb (.list (isD a)) = true := fun a => by simpa [nb] using nb_is a
  cases q : decide (a = b) with
  | true => rw [of_decide_eq_true q]; exact eqv_self (na b)
  | false =>
    refine eqv_ne (na a) (na b) fun e => ?_
    injection e with e
    refine (of_decide_eq_false q) ?_
    unfold isD at e
    exact List.map_inj_right (fun x y h => by
      injection h with h
      omega) |>.mp e
theorem eqv_bool {a b : Bool} : PyData.eqv (.bool a) (.bool b) = decide (a = b) := by cases a <;> cases b <;> rfl
theorem ts_alikeL (x : List T3) (xs : List (List T3)) : AlikeAll (tsD x :: xs.map tsD) := by
  have key : ∀ d, d ∈ tsD x :: xs.map tsD → ∃ l, d = tsD l := fun d hd => by
    rcases List.mem_cons.mp hd with e | e
    · exact ⟨x, e⟩
    · obtain ⟨l, _, rfl⟩ := List.mem_map.mp e
      exact ⟨l, rfl⟩
  refine ⟨fun a ha b hb => ?_, fun a ha => ?_⟩
  · obtain ⟨l, rfl⟩ := key a ha
    obtain ⟨l', rfl⟩ := key b hb
    exact alike_ts l l'
  · obtain ⟨l, rfl⟩ := key a ha
    exact fun e => by cases e
theorem ts_depth (x : List T3) (xs : List (List T3)) : PyData.depthAll (tsD x :: xs.map tsD) ≤ 10 := by
  have := (fl_all (n := 2) (ds := tsD x :: xs.map tsD) fun d hd => by
    rcases List.mem_cons.mp hd with e | e
    · rw [e]; exact fl_tsT x
    · obtain ⟨l, _, rfl⟩ := List.mem_map.mp e
      exact fl_tsT l).2
  exact Nat.le_trans this (by decide)
section
variable {P : Program} {w : World} {K : PySem.W.Frag} {bc cs : List Cell} {Γ : List Tv} {E : XK} {N : List Cell → List Cell → List Tv → Prop} {R : List Cell → Rv → Prop} {X : Xv → Prop} {mg : Str → Option Value}
/-- e.barred, e any book that bars L -/
theorem pn_bBarG (T : Tx K mg) {te : TE} {β : List Nat} {L : List T3} (h : Pn K bc cs Γ te (fun t => ∃ B', barL β.length B' = L ∧ t = .sem (bookS K β B'))) : Pn K bc cs Γ (tFld K te "barred") (· = .d (tsD L)) := fun M bs ls σ H S Q q =>
  h M bs ls σ H S _ fun u v H1 hu S1 k1 hv => by
    obtain ⟨B', hB, rfl⟩ := hu
    obtain ⟨a, o, rfl, ha, dx, fs, rfl, hf⟩ := hv
    have hl : List.lookup (Str.ofString "barred") (bookN K β B') = some (.d (.tuple (barD β.length B'))) := by kernel_rfl
    obtain ⟨w, h1, hp, h2⟩ := hf.look hl
    refine ⟨a, cB K, dx, fs, w, rfl, hid_ex _ _ ha, T.c_Book, T.n_Book_barred, h1, q _ w H1 rfl S1 k1 ?_⟩
    rw [← hB]
    exact pur_up hp h2
theorem pn_least {te : TE} {β : List Nat} {B : T3 → Bool} (bl : Bks β) (cl : Clsd β B) (h : Pn K bc cs Γ te (· = .sem (bookS K β B))) : Pn K bc cs Γ (tCall (spLeast K) [] E (tCons te tNil)) (fun t => ∃ B', barL β.length B' = leastL β B ∧ t = .sem (bookS K β B')) :=
  pn_call (⟨β, B, bl, cl⟩ : WoI) (qa_cons h qa_nil) (fun t m => by simp at m; rw [m]; trivial) fun r ⟨B', hB, e⟩ => by rw [e]; exact ⟨trivial, B', hB, rfl⟩
/-- two least books compared -/
theorem pn_leastEq {ta tb : TE} {β : List Nat} {A B : T3 → Bool} (bl : Bks β) (clA : Clsd β A) (clB : Clsd β B) (h : Pn K bc cs Γ ta (· = .sem (bookS K β A))) (g : Pn K bc cs Γ tb (· = .sem (bookS K β B))) :
    Pn K bc cs Γ (tOp (rOwnEq (He.ga K "Book") (spBeq K)) (tCall (spLeast K) [] E (tCons ta tNil)) (tCall (spLeast K) [] E (tCons tb tNil))) (· = .d (.bool (decide (leastL β A = leastL β B)))) :=
  pn_op (pn_least bl clA h) (pn_least bl clB g) fun t u ⟨A', hA, e1⟩ ⟨B', hB, e2⟩ => by
    subst e1 e2
    intro M bs ls σ H x y S hx hy Q q
    have hx0 := hx
    have hy0 := hy
    obtain ⟨a, o, rfl, ha, dx, fs, rfl, hf⟩ := hx
    obtain ⟨a', o', rfl, ha', dy, gs, rfl, hg⟩ := hy
    refine ⟨a, dx, fs, a', dy, gs, rfl, rfl, hid_ex _ _ ha, hid_ex _ _ ha', ((β, A'), (β, B')), _, [], S.callee0 (ts := beqTs K ((β, A'), (β, B'))) (fun t m => by simp at m; rcases m with rfl | rfl <;> trivial) ⟨hx0, hy0, trivial⟩, fun r v H2 h2 o2 cb k2 hv2 => ?_⟩
    have h2' : r = .tv (.d (.bool (decide (β = β) && decide (barL β.length A' = barL β.length B')))) := h2
    rw [decide_eq_true rfl, Bool.true_and, hA, hB] at h2'
    rw [h2'] at hv2
    exact q _ v H2 rfl (S.ex k2.ex0) (Kp.of_ex k2.ex0) hv2
/-- [three for three in classes if a draw is 0], the hand in slot j -/
theorem pf_someCls {te tn : TE} {β : List Nat} {n i j : Nat} (bl : Bks β) (h0 : (wipeT Γ [i]) = Γ) (hΓ : ∀ t, (Γ.set i t)[j]? = some (.bas 0)) (hi : ∀ t, (Γ.set i t)[i]? = some t) (pos : 1 ≤ n) (few : n ≤ 1000000000)
    (h : Pn K [handC K] cs Γ te (· = .d (.list ((classes β).map tD)))) (hn : ∀ t, Pn K [handC K] cs (Γ.set i t) tn (· = .d (iD n))) :
    Pf K [handC K] cs Γ (tLc (iSeq K te) (gName i) (tTest (tOp (rEqD K) (tCall (spDr K) [] E (tCons (tVar j) (tCons tn tNil))) (tC (.int 0)))) (tVar i) [i]) (fun ds => ∃ L : List T3, ds = L.map tD ∧ L.length ≤ 64 ∧ ∀ t, t ∈ L → In3 β.length t) := by
  have hcl : (classes β).length ≤ 64 := Nat.le_trans (List.length_filter_le _ _) (all_len bl.hi)
  refine pf_lc (T := (· = (classes β).map tD)) (si_seqL h) (fun _ j acc => j ≤ (classes β).length ∧ ∃ L : List T3, acc = L.map tD ∧ L.length ≤ j ∧ ∀ t, t ∈ L → In3 β.length t) (fun _ _ => ⟨Nat.zero_le _, [], rfl, Nat.le_refl _, fun t m => by cases m⟩) (fun ds j acc _ ⟨a, L, e, l, _⟩ => by rw [e, List.length_map]; omega) ?_ ?_
  · rintro ds j d rfl hd
    obtain ⟨t, ht, rfl⟩ := ts_at hd
    have hj : j < (classes β).length := (List.getElem?_eq_some_iff.mp ht).1
    have hin := class_in (List.mem_of_getElem? ht)
    rw [h0]
    refine ⟨_, _, tg_name, fun x hx => hx, fun _ => True, qt_any (pn_isZero (pn_drawJ (hΓ _) (hn _) pos few)), fun _ => ?_, fun _ acc ⟨a, L, e, l, o⟩ => ⟨hj, L, e, by omega, o⟩⟩
    refine (pd (x := tD t) (hi _)).mono fun u e => ⟨_, e, fun acc ⟨a, L, e2, l, o⟩ => ⟨hj, L ++ [t], by rw [e2]; simp, by rw [List.length_append]; simp; omega, fun u hu => ?_⟩⟩
    rcases List.mem_append.mp hu with q | q
    · exact o u q
    · rw [List.mem_singleton.mp q]; exact hin
  · rintro ds acc rfl ⟨a, L, e, l, o⟩
    exact ⟨L, e, by rw [List.length_map] at l; omega, o⟩
theorem pn_pair {ta tb : TE} {x : PyData} {D : PyData → Prop} (h : Pn K bc cs Γ ta (· = .d x)) (g : Pn K bc cs Γ tb (fun t => ∃ y, D y ∧ t = .d y)) : Pn K bc cs Γ (tTup (tCons ta (tCons tb tNil))) (fun t => ∃ y, D y ∧ t = .d (.tuple [x, y])) := fun M bs ls σ H S Q q =>
  h M bs ls σ H S _ fun t v H1 ht S1 k1 hv => g M bs ls σ H1 S1 _ fun u v2 H2 ⟨y, hy, e⟩ S2 k2 hv2 => by
    subst ht e
    refine ⟨by show 2 ≤ sizeLine; rw [sizeLine_eq]; decide, fun p n => ?_⟩
    have ex := ex_upd (o := .tup [v, v2]) n
    refine q _ _ _ ⟨y, hy, rfl⟩ (S2.ex ex) ((k1.trans k2).trans (Kp.of_ex ex)) (.tup ?_ (.cons (Dq.ex (Kp.of_ex ex).ex _ _ (Dq.ex k2.ex _ _ hv)) (.cons (Dq.ex (Kp.of_ex ex).ex _ _ hv2) .nil)))
    rw [hid_of (nin (S2.new n)), upd_same]
end
end Z
set_option Elab.async false
set_option linter.all false
set_option maxRecDepth 100000
set_option maxHeartbeats 4000000
namespace Z
open PySem PySem.Spec PyProof.Rows L2
section
variable {P : Program} {w : World} {K : PySem.W.Frag} {bc cs : List Cell} {Γ : List Tv} {E : XK} {N : List Cell → List Cell → List Tv → Prop} {R : List Cell → Rv → Prop} {X : Xv → Prop} {mg : Str → Option Value}
abbrev lawR : HdI → Rv → Prop := fun _ r => r = .tv (.d (.bool true))
abbrev spLaw (K : PySem.W.Frag) : Sp := Pro K [] (hdTs K) lawR
/-- what stands behind the renamed book's making -/
abbrev lawG (K : PySem.W.Frag) (β r : List Nat) (B : T3 → Bool) : List Tv := [.any, .bas 0, .d (iD β.length), .d (worldD β B), .d (.list (isD β)), .sem (bookS K β B), .d (.list ((namings β).map rowL)), .d (rowL r), .any, .sem (bookS K β (ren β r B)), .d (worldD β (ren β r B)), .any, .any, .any, .any, .any, .any, .any, .any, .any, .any, .any, .any, .any, .any, .any]
theorem tr_law (T : Tz K mg P) (x : HdI) : Trp K [] E (t_law K (spHd K) (spPk K) (spAw K) (spLbk K) (spNa K) (spShf K) (spRt K) (spRn K) (spSb K) (spDt K) (spLl K) (spRr K) (spPl K 4) (spDr K) (spDb K) (spSh K) (spSun K) (spLt K) (spBeq K) (spLets K) (spFi K) (spLeast K) (spBa K) (spLco K) (spLc K) (spSunO K)) 25 (hdTs K) lawR x := by
  refine tr_toBase (i := 1) (x := .bool true) (pf_call (T := fun ds => ∃ c i r t, ds = handL c i r t) x (qa_cons (ps rfl) qa_nil) (fun t m => by simp at m; rw [m]; trivial) fun r ⟨c, i, rr, t, e⟩ => ⟨_, e, c, i, rr, t, rfl⟩) ?_
  refine tr_wk (Γ' := [.any, .bas 0, .any, .any, .any, .any, .any, .any, .any, .any, .any, .any, .any, .any, .any, .any, .any, .any, .any, .any, .any, .any, .any, .any, .any, .any]) ⟨.inl rfl, .inr rfl, .inr rfl, .inr rfl, .inr rfl, .inr rfl, .inr rfl, .inr rfl, .inr rfl, .inr rfl, .inr rfl, .inr rfl, .inr rfl, .inr rfl, .inr rfl, .inr rfl, .inr rfl, .inr rfl, .inr rfl, .inr rfl, .inr rfl, .inr rfl, .inr rfl, .inr rfl, .inr rfl, .inr rfl, trivial⟩ ?_
  -- many
  refine tr_seq (tr_asg (T := fun t => ∃ d, (∃ m : Nat, 2 ≤ m ∧ m ≤ 4 ∧ d = iD m) ∧ t = .d d) (pn_pickG (D := fun ds => ds = [.int 2, .int 3, .int 4, .int 3, .int 2]) (G := fun d => ∃ m : Nat, 2 ≤ m ∧ m ≤ 4 ∧ d = iD m) rfl (pf_lstD (ds := [.int 2, .int 3, .int 4, .int 3, .int 2]) (qa_cons pc_int (qa_cons pc_int (qa_cons pc_int (qa_cons pc_int (qa_cons pc_int qa_nil))))) (by simp)).pn ?_) ?_)
  · rintro ds rfl
    refine ⟨by simp, by simp, fun d hd => ?_⟩
    simp at hd
    rcases hd with rfl | rfl | rfl | rfl | rfl
    · exact ⟨2, by decide, by decide, rfl⟩
    · exact ⟨3, by decide, by decide, rfl⟩
    · exact ⟨4, by decide, by decide, rfl⟩
    · exact ⟨3, by decide, by decide, rfl⟩
    · exact ⟨2, by decide, by decide, rfl⟩
  rintro _ ⟨_, ⟨m, h2, h4, rfl⟩, rfl⟩
  -- world
  refine tr_seq (tr_asg (T := fun t => ∃ β B, Bks β ∧ β.length = m ∧ Clsd β B ∧ t = .d (worldD β B)) (pn_callB (⟨m, h2, h4⟩ : MnI) (qa_cons (pb rfl) (qa_cons (pd rfl) qa_nil)) (fun t m => by simp at m; rcases m with rfl | rfl <;> trivial) fun r ⟨β, B, a, b, c, e⟩ => by rw [e]; exact ⟨trivial, β, B, a, b, c, rfl⟩) ?_)
  rintro _ ⟨β, B, bl, rfl, cl, rfl⟩
  refine tr_seq (tr_set (pd_op (pd (x := worldD β B) rfl) pc_int (ro_ixT w_0)) ?_)
  refine tr_seq (tr_set (t := .sem (bookS K β B)) (pn_callB (⟨β, B, bl, cl⟩ : WoI) (qa_cons (pb rfl) (qa_cons (pd rfl) qa_nil)) (fun t m => by simp at m; rcases m with rfl | rfl <;> trivial) fun r e => by rw [e]; exact ⟨trivial, rfl⟩) ?_)
  refine tr_seq (tr_set (t := .d (.list ((namings β).map rowL))) (pn_call (⟨β, bl⟩ : BksI) (qa_cons (pd rfl) qa_nil) (fun t m => by simp at m; rw [m]; trivial) fun r e => by rw [e]; exact ⟨trivial, rfl⟩) ?_)
  have hnp : 1 ≤ (namings β).length := List.length_pos_of_mem (id_nam bl)
  have hnf : (namings β).length ≤ 24 := Nat.le_trans (List.length_filter_le _ _) (ord_few h4 (Nat.le_refl _))
  -- names
  refine tr_seq (tr_asg (T := fun t => ∃ d, (∃ r, r ∈ namings β ∧ d = rowL r) ∧ t = .d d) (pn_pickG (D := fun ds => ds = (namings β).map rowL) (G := fun d => ∃ r, r ∈ namings β ∧ d = rowL r) rfl ((pd rfl).mono fun t e => ⟨_, rfl, e⟩) ?_) ?_)
  · rintro ds rfl
    refine ⟨by rw [List.length_map]; exact hnp, by rw [List.length_map]; omega, fun d hd => ?_⟩
    obtain ⟨r, hr, rfl⟩ := List.mem_map.mp hd
    exact ⟨r, hr, rfl⟩
  rintro _ ⟨_, ⟨r, hr, rfl⟩, rfl⟩
  have hrow := nam_row hr
  -- couples
  refine tr_seq (tr_asg (T := fun t => ∃ ds, (∃ ts, List.Perm ts (List.range β.length) ∧ ds = ts.map (pr2 r)) ∧ t = .d (.list ds)) (pf_callB (T := fun ds => ∃ ts, List.Perm ts (List.range β.length) ∧ ds = ts.map (pr2 r)) (⟨(List.range β.length).map (pr2 r), by simp; omega⟩ : FwI) (qa_cons (pb rfl) (qa_cons (Pf.pd (pf_map (ds := rgD 0 β.length) (si_rng1 (n := β.length) (pd rfl) (by omega)) (by rw [rgD_len]; omega) (by rw [rgD_len]; simp) rfl fun j d hd => ?_)) qa_nil)) (fun t m => by simp at m; rcases m with rfl | rfl <;> trivial) fun rr hrr => ?_).pn ?_)
  · obtain ⟨hj, rfl⟩ := rgD_get hd
    rw [Nat.zero_add]
    exact ⟨pr2 r j, range_map_at hj, pn_tup (ds := [iD j, iD (bk r j)]) (qa_cons (pd rfl) (qa_cons (pd_op (pd (x := rowL r) rfl) (pd rfl) (ro_ixL (isD_atI (by rw [hrow.1]; exact hj)))) qa_nil)) (by simp)⟩
  · obtain ⟨es, hp, e⟩ := hrr
    obtain ⟨ts, h1, h2⟩ := perm_pr hp
    exact ⟨es, e, ts, h1, h2⟩
  rintro _ ⟨_, ⟨ts, hts, rfl⟩, rfl⟩
  have htl : ts.length = β.length := by rw [hts.length_eq, List.length_range]
  -- the renamed book
  refine tr_seq (tr_set (t := .sem (bookS K β (ren β r B))) (pn_renamedG (ts := ts) bl (ps (s := bookS K β B) rfl) (Pn.mono (Pf.pn (T := fun l => Cps β r ts l) ?_) fun t ⟨l, h, e⟩ => ⟨l, h, e⟩)) ?_)
  · refine pf_lc (T := (· = ts.map (pr2 r))) (si_seqL (pd rfl)) (fun _ j acc => (acc.length = j ∧ j ≤ ts.length) ∧ ∀ (i t : Nat), i < j → ts[i]? = some t → ∃ d, acc[i]? = some d ∧ itemsD d = some [iD t, iD (bk r t)]) (fun _ _ => ⟨⟨rfl, Nat.zero_le _⟩, fun i t h => absurd h (Nat.not_lt_zero _)⟩) (fun ds j acc e a => by obtain ⟨⟨a1, a2⟩, _⟩ := a; omega) ?_ ?_
    · rintro ds j d rfl hd
      obtain ⟨t, ht, rfl⟩ := map_at hd
      have hjt := (List.getElem?_eq_some_iff.mp ht).1
      refine ⟨_, _, tg_name, fun x hx => hx, (· = true), qt_yes, fun _ => ?_, fun e => by cases e⟩
      refine (pn_shape (x := [iD t, iD (bk r t)]) rfl (pd (x := pr2 r t) rfl)).mono fun u ⟨d, hdd, e⟩ => ⟨d, e, fun acc ⟨⟨a1, a3⟩, a2⟩ => ⟨⟨by rw [List.length_append, a1]; rfl, hjt⟩, fun i t' hi ht' => ?_⟩⟩
      by_cases z : i < j
      · obtain ⟨d', h1, h2⟩ := a2 i t' z ht'
        exact ⟨d', by rw [List.getElem?_append_left (by omega)]; exact h1, h2⟩
      · have e2 : i = j := by omega
        subst e2
        rw [ht] at ht'
        cases ht'
        exact ⟨d, by rw [List.getElem?_append_right (by omega), a1, Nat.sub_self]; rfl, hdd⟩
    · rintro ds acc rfl ⟨⟨a1, _⟩, a2⟩
      rw [List.length_map] at a1 a2
      exact cps_of bl hr hts a1 fun i t ht => a2 i t (List.getElem?_eq_some_iff.mp ht).1 ht
  have clr := ren_cl (B := B) bl hrow
  refine tr_seq (tr_set (t := .d (worldD β (ren β r B))) (pn_call (⟨β, B, r, bl, cl, hrow⟩ : RwI) (qa_cons (pd rfl) (qa_cons (pd rfl) qa_nil)) (fun t m => by simp at m; rcases m with rfl | rfl <;> trivial) fun r e => by rw [e]; exact ⟨trivial, rfl⟩) ?_)
  refine tr_skip (qt_not (qt_B (pn_call (T := (· = .d (.bool true))) (⟨β, ren β r B, bl, clr⟩ : WoI) (qa_cons (ps rfl) (qa_cons (pd rfl) qa_nil)) (fun t m => by simp at m; rcases m with rfl | rfl <;> trivial) fun r e => by rw [e]; exact ⟨trivial, rfl⟩))) rfl ?_
  refine tr_wk (Γ' := lawG K β r B) ⟨.inl rfl, .inr rfl, .inr rfl, .inr rfl, .inr rfl, .inr rfl, .inr rfl, .inr rfl, .inl rfl, .inr rfl, .inr rfl, .inr rfl, .inr rfl, .inr rfl, .inr rfl, .inr rfl, .inr rfl, .inr rfl, .inr rfl, .inr rfl, .inr rfl, .inr rfl, .inr rfl, .inr rfl, .inr rfl, .inr rfl, trivial⟩ ?_
  -- twice: a table
  refine tr_cut (Nm := fun b c g => b = [handC K] ∧ c = [] ∧ Wk g (lawG K β r B)) (tr_for (si_rng1 (n := 2) pc_int (by decide)) (fun _ _ b c g => b = [handC K] ∧ c = [] ∧ Wk g (lawG K β r B)) (fun _ _ => ⟨rfl, rfl, Wk.refl _⟩) ?_ fun _ b c g _ h => h) ?_
  · rintro ds i d b c γ rfl hd ⟨rfl, rfl, hw⟩
    refine ⟨_, _, tg_name, tr_wk (wk_back (i := 11) rfl |> fun h => wk_trans (wk_set hw) h) ?_⟩
    refine tr_seq (tr_asg (pn_table (j := 1) bl rfl (pd rfl) (pn_pickG (D := fun ds => ds = [.int 3, .int 3, .int 4]) (G := fun d => ∃ n : Nat, 3 ≤ n ∧ n ≤ 4 ∧ d = iD n) rfl (pf_lstD (ds := [.int 3, .int 3, .int 4]) (qa_cons pc_int (qa_cons pc_int (qa_cons pc_int qa_nil))) (by simp)).pn ?_)) ?_)
    · rintro ds rfl
      refine ⟨by simp, by simp, fun d hd => ?_⟩
      simp at hd
      rcases hd with rfl | rfl
      · exact ⟨3, by decide, by decide, rfl⟩
      · exact ⟨4, by decide, by decide, rfl⟩
    rintro _ ⟨n, f, h3, h4', tab, rfl⟩
    have hlt : ∀ i j, j < i → i < n → bk r (f i j) < β.length := fun i j hj hi => row_lt hrow (tab.lt i j hj hi)
    refine tr_seq (tr_set (t := .d (tabD n fun i j => bk r (f i j))) ((pf_turned (a := 23) (b := 24) bl hrow h4' tab (pd rfl) rfl (fun y => rfl) (fun y => rfl) (fun y z => rfl) fun y z => pd rfl).pn.mono fun t ⟨ds, h, e⟩ => by rw [e, h]) ?_)
    refine tr_seq (tr_asg (T := fun t => ∃ ds, (∃ g : List Nat, g.length = n ∧ (∀ y, y ∈ g → y ≤ 1000000000) ∧ (∀ i, i + 1 < g.length → bk g i < bk g (i + 1)) ∧ ds = isD g) ∧ t = .d (.list ds)) (pf_callB (T := fun ds => ∃ g : List Nat, g.length = n ∧ (∀ y, y ∈ g → y ≤ 1000000000) ∧ (∀ i, i + 1 < g.length → bk g i < bk g (i + 1)) ∧ ds = isD g) (⟨n, h3, h4'⟩ : NlI) (qa_cons (pb rfl) (qa_cons (tab_len (pd rfl)) qa_nil)) (fun t m => by simp at m; rcases m with rfl | rfl <;> trivial) fun rr ⟨g, a, b, c, e⟩ => ⟨_, e, g, a, b, c, rfl⟩).pn ?_)
    rintro _ ⟨_, ⟨g, hg1, hg2, hg3, rfl⟩, rfl⟩
    let xc : LcI := ⟨β, g, n, fun i j => bk r (f i j), bl, h4', hg1, hg2, hg3, hlt⟩
    refine tr_skip1 (b := !true) (qt_not (qt_B (pn_letsFits (g := g) bl cl hr tab h4' xc.co rfl hg1 rfl (ps rfl) ?_ (pd rfl) (pd rfl)))) rfl ⟨rfl, rfl, ⟨.inr rfl, .inr rfl, .inr rfl, .inr rfl, .inr rfl, .inr rfl, .inr rfl, .inr rfl, .inr rfl, .inr rfl, .inr rfl, .inl rfl, .inl rfl, .inl rfl, .inl rfl, .inr rfl, .inr rfl, .inr rfl, .inr rfl, .inr rfl, .inr rfl, .inr rfl, .inr rfl, .inr rfl, .inr rfl, .inr rfl, trivial⟩⟩
    exact pn_call xc (qa_cons (pd rfl) (qa_cons (pd rfl) (qa_cons (pd rfl) qa_nil))) (fun t m => by simp at m; rcases m with rfl | rfl | rfl <;> trivial) fun r e => by rw [e]; exact ⟨trivial, rfl⟩
  rintro b c γ ⟨rfl, rfl, hw⟩
  refine tr_wk hw ?_
  -- refusals
  refine tr_skip (qt_not (qt_B (pn_callB (T := (· = .d (.bool true))) (⟨β, B, bl, cl⟩ : WoI) (qa_cons (pb rfl) (qa_cons (ps rfl) (qa_cons (pd rfl) qa_nil))) (fun t m => by simp at m; rcases m with rfl | rfl | rfl <;> trivial) fun r e => by rw [e]; exact ⟨trivial, rfl⟩))) rfl ?_
  -- between the two
  refine tr_skip (qt_not (qt_B (pn_plain (n := 3) (pl_due bl) (pn_call (T := (· = .d (dueD β B (ren β r B)))) (⟨β, B, ren β r B, bl, cl, clr⟩ : DbI) (qa_cons (ps rfl) (qa_cons (ps rfl) qa_nil)) (fun t m => by simp at m; rcases m with rfl | rfl <;> trivial) fun r e => by rw [e]; exact ⟨trivial, rfl⟩) (pn_call (T := (· = .d (dueD β B (ren β r B)))) (⟨β, B, ren β r B, bl, cl, clr⟩ : DbI) (qa_cons (pd rfl) (qa_cons (pd rfl) qa_nil)) (fun t m => by simp at m; rcases m with rfl | rfl <;> trivial) fun r e => by rw [e]; exact ⟨trivial, rfl⟩)))) rfl ?_
  -- a second world
  refine tr_seq (tr_asg (T := fun t => ∃ β2 B2, Bks β2 ∧ Clsd β2 B2 ∧ t = .d (worldD β2 B2)) (pn_callB (⟨β.length, h2, h4⟩ : MnI) (qa_cons (pb rfl) (qa_cons (pd rfl) qa_nil)) (fun t m => by simp at m; rcases m with rfl | rfl <;> trivial) fun r ⟨β, B, a, b, c, e⟩ => by rw [e]; exact ⟨trivial, β, B, a, c, rfl⟩) ?_)
  rintro _ ⟨β1, B1, bl1, cl1, rfl⟩
  refine tr_cut (Nm := fun b c g => b = [handC K] ∧ c = [] ∧ ∃ β2 B2, Bks β2 ∧ Clsd β2 B2 ∧ Wk g ((lawG K β r B).set 15 (.d (worldD β2 B2)))) (tr_ifG (qt_draw0 (n := 2) rfl rfl (by decide) (by decide)) (fun _ => ?_) fun _ => tr_next ⟨rfl, rfl, β1, B1, bl1, cl1, Wk.refl _⟩) ?_
  · refine tr_asg (pn_pair (D := fun y => ∃ B2, Clsd β B2 ∧ y = letD β.length B2) (pd (x := .list (isD β)) rfl) ((pn_letOf bl (pd rfl) (pf_someCls (j := 1) bl rfl (fun _ => rfl) (fun _ => rfl) (n := 2) (by decide) (by decide) (pn_classes bl (pd rfl)) fun _ => pc_int)).mono fun t ⟨B2, c, e⟩ => ⟨_, ⟨B2, c, rfl⟩, e⟩)) ?_
    rintro _ ⟨_, ⟨B2, c, rfl⟩, rfl⟩
    exact ⟨rfl, rfl, β, B2, bl, c, Wk.refl _⟩
  rintro b c γ ⟨rfl, rfl, β2, B2, bl2, cl2, hw2⟩
  refine tr_wk hw2 ?_
  refine tr_seq (tr_set (t := .sem (bookS K β2 B2)) (pn_callB (⟨β2, B2, bl2, cl2⟩ : WoI) (qa_cons (pb rfl) (qa_cons (pd rfl) qa_nil)) (fun t m => by simp at m; rcases m with rfl | rfl <;> trivial) fun r e => by rw [e]; exact ⟨trivial, rfl⟩) ?_)
  refine tr_cut (Nm := fun b c g => b = [handC K] ∧ c = [] ∧ Wk g (lawG K β r B)) (tr_if (b := decide (β2 = β)) (qt_of ((pd_op (pf_listL (pd_op (pd (x := worldD β2 B2) rfl) pc_int (ro_ixT w_0)) (.d _)).pd (pf_listL (pd (x := .list (isD β)) rfl) (.d _)).pd (ro_eq ((fl_is _).sh (by decide)) ((fl_is _).sh (by decide)))).mono fun t e => by rw [e, lst_eqI])) (fun hb => ?_) fun hb => ?_) ?_
  · have hβ := of_decide_eq_true hb
    subst hβ
    refine tr_seq (tr_set (t := .d (dueD β2 B B2)) (pn_call (⟨β2, B, B2, bl, cl, cl2⟩ : DbI) (qa_cons (pd rfl) (qa_cons (pd rfl) qa_nil)) (fun t m => by simp at m; rcases m with rfl | rfl <;> trivial) fun r e => by rw [e]; exact ⟨trivial, rfl⟩) ?_)
    refine tr_skip (qt_not (qt_B (pn_plain (n := 3) (pl_due bl) (pn_call (T := (· = .d (dueD β2 B B2))) (⟨β2, B, B2, bl, cl, cl2⟩ : DbI) (qa_cons (ps rfl) (qa_cons (ps rfl) qa_nil)) (fun t m => by simp at m; rcases m with rfl | rfl <;> trivial) fun r e => by rw [e]; exact ⟨trivial, rfl⟩) (pd rfl)))) rfl ?_
    refine tr_skip1 (qt_of (pd_op (pn_leastEq bl cl cl2 (ps rfl) (ps rfl)) (pd_op (pd (x := dueD β2 B B2) rfl) pc_non ro_isNot) (ro_ne (fl_bool (n := 0) |>.sh (by decide)) (fl_bool (n := 0) |>.sh (by decide))))) (by rw [eqv_bool, least_due bl cl cl2]; simp) ⟨rfl, rfl, ⟨.inl rfl, .inr rfl, .inr rfl, .inr rfl, .inr rfl, .inr rfl, .inr rfl, .inr rfl, .inl rfl, .inr rfl, .inr rfl, .inl rfl, .inl rfl, .inl rfl, .inl rfl, .inl rfl, .inl rfl, .inl rfl, .inl rfl, .inl rfl, .inl rfl, .inl rfl, .inl rfl, .inl rfl, .inl rfl, .inl rfl, trivial⟩⟩
  · have hβ : β ≠ β2 := fun e => of_decide_eq_false hb e.symm
    refine tr_seq (tr_set pc_int ?_)
    refine tr_seq (tr_tryO (j := 19) (⟨β, β2, B, B2, hβ⟩ : ObI) (qa_cons (ps rfl) (qa_cons (ps rfl) qa_nil)) (fun t m => by simp at m; rcases m with rfl | rfl <;> trivial) T.otE.exm fun a => ?_)
    refine tr_set (pn_cb (qa_cons (pn_isO rfl T.otE.kit) qa_nil) rc_intB) ?_
    refine tr_skip1 (qt_of (pd_op (pd rfl) pc_int (ro_ne sh_int sh_int))) (by rw [eqv_int]; rfl) ⟨rfl, rfl, ⟨.inl rfl, .inr rfl, .inr rfl, .inr rfl, .inr rfl, .inr rfl, .inr rfl, .inr rfl, .inl rfl, .inr rfl, .inr rfl, .inl rfl, .inl rfl, .inl rfl, .inl rfl, .inl rfl, .inl rfl, .inl rfl, .inl rfl, .inl rfl, .inl rfl, .inl rfl, .inl rfl, .inl rfl, .inl rfl, .inl rfl, trivial⟩⟩
  rintro b c γ ⟨rfl, rfl, hw3⟩
  refine tr_wk hw3 ?_
  -- the least
  obtain ⟨y, ys, hys⟩ : ∃ y ys, y :: ys = orb β B := by
    cases q : orb β B with
    | nil => exact absurd (least_mem bl cl) (by rw [q]; simp)
    | cons y ys => exact ⟨y, ys, rfl⟩
  have hmin := least_of bl cl hys
  refine tr_seq (tr_set (t := .d (tsD (leastL β B))) ?_ ?_)
  · refine (pn_minD (d := tsD y) (ds := ys.map tsD) ?_ (ts_alikeL y ys) (ts_depth y ys)).mono fun t e => by rw [e, minD_ts, hmin]
    rw [← List.map_cons, hys]
    refine pf_map (ds := (namings β).map rowL) (si_seqL (pd rfl)) (by rw [List.length_map]; omega) (by simp [orb]) rfl fun j d hd => ?_
    obtain ⟨s, hs, rfl⟩ := map_at hd
    have hs2 := nam_row (List.mem_of_getElem? hs)
    refine ⟨tsD (barL β.length (ren β s B)), by unfold orb; rw [List.getElem?_map, List.getElem?_map, hs]; rfl, ?_⟩
    refine pn_tupL (pn_barred bl (ren_cl (B := B) bl hs2) ?_) (.d _)
    exact pn_call (T := (· = .d (worldD β (ren β s B)))) (⟨β, B, s, bl, cl, hs2⟩ : RwI) (qa_cons (pd rfl) (qa_cons (pd rfl) qa_nil)) (fun t m => by simp at m; rcases m with rfl | rfl <;> trivial) fun r e => by rw [e]; exact ⟨trivial, rfl⟩
  have hsame : leastL β (ren β r B) = leastL β B := ((least_iff bl cl clr).mpr ⟨r, hr, rfl⟩).symm
  have hpl : Pl 3 (tsD (leastL β B)) := by
    obtain ⟨s, _, e⟩ := orb_mem.mp (least_mem bl cl)
    refine .tup (fun d m => ?_) ?_
    · obtain ⟨t, _, rfl⟩ := List.mem_map.mp m
      refine .tup (fun d m => ?_) (by simp)
      simp at m
      rcases m with rfl | rfl | rfl <;> exact .int _
    · rw [List.length_map, ← e]
      exact Nat.le_trans (bar_few bl) (by decide)
  refine tr_retD (x := .bool (true && true)) (pn_andV (pn_plain hpl (pn_bBarG T.toTx (pn_least bl cl (ps rfl))) (pd rfl)) fun _ => pn_plain hpl (pn_bBarG T.toTx ((pn_least bl clr (ps rfl)).mono fun t ⟨B', hB, e⟩ => ⟨B', hB.trans hsame, e⟩)) (pd rfl)) ⟨rfl, rfl⟩
end
end Z
set_option Elab.async false
set_option linter.all false
set_option maxRecDepth 100000
set_option maxHeartbeats 2000000
namespace Z
open PySem PySem.Spec PyProof.Rows L2
open PySem.W (Frag nsIn clsIn mroIn subIn findIn typeIn keepIn codeIn hasDictIn specialIn takesIn ks_superIn exmOne kitOne ksFn)
/-! ### what the head tells of the error classes -/
def clsB (K : Frag) (C : Addr) : Bool := match K.lookup C with
  | some ⟨.type "type", _, .cls cd, sl⟩ => (match cd.mro, sl.toList with
    | .ref C' :: bm, [_, _, _, _, some (.builtin n), _] => decide (C' = C) && (decide (n = "ValueError.__new__") && (!cd.hasDel && (cd.hasDict && PySem.HandSPX.refsVE bm)))
    | _, _ => false)
  | _ => false
theorem clsB_ok {K : Frag} {C : Addr} (h : clsB K C = true) : ∃ nm q N bs bm sn sub ab col dd k0 k1 k2 k3 k5, K.lookup C = some (excClassObj nm q C N bs bm true sn sub ab col dd k0 k1 k2 k3 k5 "ValueError.__new__") ∧ PySem.HandSPX.refsVE bm = true := by
  unfold clsB at h
  split at h
  · rename_i dd cd sl ho
    split at h
    · rename_i C' bm k0 k1 k2 k3 n k5 hm hs
      obtain ⟨e1, h⟩ := He.ba h
      obtain ⟨e2, h⟩ := He.ba h
      obtain ⟨e3, h⟩ := He.ba h
      obtain ⟨e4, e5⟩ := He.ba h
      have e1 := of_decide_eq_true e1
      have e2 := of_decide_eq_true e2
      obtain ⟨nm, bs, mro, ns, qn, hd, sn, sub, ab, col, del⟩ := cd
      dsimp only at hm e3 e4
      have e3' : del = false := by cases del <;> first | rfl | cases e3
      subst hm e1 e2 e3' e4
      have hsl : sl = #[k0, k1, k2, k3, some (.builtin "ValueError.__new__"), k5] := by
        obtain ⟨l⟩ := sl
        simp only at hs
        rw [hs]
      subst hsl
      exact ⟨nm, qn, ns, bs, bm, sn, sub, ab, col, dd, k0, k1, k2, k3, k5, ho, e5⟩
    · cases h
  · cases h
abbrev FnC : Type := Option (Str × Str × Arguments × FuncBody × Scope × Addr × List Str × Value × Addr)
def fnC (K : Frag) (x : Str) : FnC := match K.lookup (He.ma K (He.ga K x) "__init__") with
  | some ⟨_, _, .func fd, _⟩ => some (fd.name, fd.qualname, fd.params, fd.body, fd.scope, fd.globals, fd.closure.map (·.1), fd.defaults, fd.builtins)
  | _ => none
def valC (qual : Str) (st : Stmt) : FnC := some ("__init__", qual, defArgs st, .stmts (defBody st), defScope st, mainGlobals, ["__class__"], .none, builtinsNs)
def cellB (K : Frag) (C cc : Addr) : Bool := match K.lookup cc with
  | some ⟨_, _, .cell (some (.ref D)), _⟩ => decide (D = C)
  | _ => false
def fileB (K : Frag) (cda : Addr) (file : Str) : Bool := match K.lookup cda with
  | some ⟨_, _, .fields vs, _⟩ => (match (vs[2]? : Option Value) with
    | some (Value.str f _) => file == f
    | _ => false)
  | _ => false
def cloB (K : Frag) (C : Addr) (qual file : Str) : Value → List (Str × Addr) → Bool
  | .ref cda, [(_, cc)] => codeIn K (.ref cda) qual && (fileB K cda file && cellB K C cc)
  | _, _ => false
theorem cloB_ok {K : Frag} {C : Addr} {qual file : Str} {v : Value} {l : List (Str × Addr)} (h : cloB K C qual file v l = true) : ∃ cda nm cc, v = .ref cda ∧ l = [(nm, cc)] ∧ codeIn K (.ref cda) qual = true ∧ fileB K cda file = true ∧ cellB K C cc = true := by
  unfold cloB at h
  split at h
  · obtain ⟨c1, h⟩ := He.ba h
    obtain ⟨c2, c3⟩ := He.ba h
    exact ⟨_, _, _, rfl, rfl, c1, c2, c3⟩
  · cases h
theorem fileB_ok {K : Frag} {cda : Addr} {file : Str} (h : fileB K cda file = true) : ∃ ccl cdd vs ccs f tf, K.lookup cda = some ⟨ccl, cdd, .fields vs, ccs⟩ ∧ vs[2]? = some (.str f tf) ∧ (file == f) = true := by
  unfold fileB at h
  split at h
  · rename_i hq
    split at h
    · rename_i hv
      exact ⟨_, _, _, _, _, _, hq, hv, h⟩
    · cases h
  · cases h
theorem cellB_ok {K : Frag} {C cc : Addr} (h : cellB K C cc = true) : ∃ cl cld csl, K.lookup cc = some ⟨cl, cld, .cell (some (.ref C)), csl⟩ := by
  unfold cellB at h
  split at h
  · rename_i hq
    have e := of_decide_eq_true h
    subst e
    exact ⟨_, _, _, hq⟩
  · cases h
def restB (K : Frag) (x qual file : Str) : Bool := match K.lookup (He.ma K (He.ga K x) "__init__") with
  | some ⟨_, _, .func fd, _⟩ => cloB K (He.ga K x) qual file fd.code fd.closure
  | _ => false
theorem fnC_ok {K : Frag} {P : Program} {x qual : Str} {st : Stmt} (e : fnC K x = valC qual st) (h : restB K x qual P.main.file = true) :
    ∃ (oc : Value) (od : Option Addr) (kV doc pm : Value) (an : Option Addr) (cda cc : Addr) (ct : Value) (osl : Array (Option Value)) (ccl : Value) (cdd : Option Addr) (vs : Array Value) (ccs : Array (Option Value)) (file : Str) (tf : Tok) (cl : Value) (cld : Option Addr) (csl : Array (Option Value)),
      K.lookup (He.ma K (He.ga K x) "__init__") = some ⟨oc, od, .func (ksFn "__init__" qual (defArgs st) (defBody st) (defScope st) .none kV doc pm an (.ref cda) ct cc), osl⟩ ∧ codeIn K (.ref cda) qual = true ∧
      K.lookup cda = some ⟨ccl, cdd, .fields vs, ccs⟩ ∧ vs[2]? = some (.str file tf) ∧ ((P.main.file : Str) == file) = true ∧ K.lookup cc = some ⟨cl, cld, .cell (some (.ref (He.ga K x))), csl⟩ := by
  unfold fnC at e
  unfold restB at h
  cases q : K.lookup (He.ma K (He.ga K x) "__init__") with
  | none => rw [q] at h; cases h
  | some o =>
    obtain ⟨oc, od, dt, osl⟩ := o
    rw [q] at e h
    cases dt with
    | func fd =>
      obtain ⟨n1, n2, n3, n4, n5, n6, n7, n8, n9, n10, n11, n12, n13, n14, n15⟩ := fd
      have e2 : (some (n1, n2, n3, n4, n5, n6, n7.map (·.1), n8, n15) : FnC) = valC qual st := e
      unfold valC at e2
      simp only [Option.some.injEq, Prod.mk.injEq] at e2
      obtain ⟨h1, h2, h3, h4, h5, h6, h7, h8, h9⟩ := e2
      subst h1 h2 h3 h4 h5 h6 h8 h9
      have h' : cloB K (He.ga K x) n2 P.main.file n13 n7 = true := h
      obtain ⟨cda, nmc, cc, rfl, rfl, c1, c2, c3⟩ := cloB_ok h'
      have en : nmc = "__class__" := by simpa using h7
      subst en
      obtain ⟨ccl, cdd, vs, ccs, f, tf, q2, hv, hf⟩ := fileB_ok c2
      obtain ⟨cl, cld, csl, q3⟩ := cellB_ok c3
      exact ⟨oc, od, n9, n10, n11, n12, cda, cc, n14, osl, ccl, cdd, vs, ccs, f, tf, cl, cld, csl, rfl, c1, q2, hv, hf, q3⟩
    | _ => cases h
def errB (K : Frag) (x qual file : Str) : Bool :=
  let C := He.ga K x
  let fI := He.ma K C "__init__"
  clsB K C && (restB K x qual file && ([
    decide (findIn K (.ref C) "__setattr__" = some (some (.builtin "object.__setattr__"))),
    decide (ks_superIn K C C "__init__" = some (some (.builtin "ValueError.__init__"))),
    decide (subIn K (.ref C) (.type "ValueError") = some true),
    decide (mroIn K C (.ref C) = some true),
    decide (findIn K (.ref C) "__init__" = some (some (.ref fI))),
    decide (typeIn K (.ref fI) = some (.type "function")),
    keepIn K (.ref C),
    decide (subIn K (.ref C) (.type "BaseException") = some true),
    decide (typeIn K (.ref C) = some (.type "type")),
    decide (findIn K (.ref C) "__getattribute__" = some (some (.builtin "BaseException.__getattribute__"))),
    decide (findIn K (.ref C) "__getattr__" = some none),
    hasDictIn K C,
    decide (findIn K (.ref C) "__class__" = some (some (.builtin "object.__class__"))),
    decide (mroIn K C (.type "object") = some true),
    decide (exmOne K (.ref C) (.ref C) = some true),
    decide (kitOne K (.ref C) (.ref (He.ga K "GuestError")) = some true)] : List Bool).all id)
/-- what is told besides the facts by names -/
def exZ (K : Frag) (file : Str) : Bool :=
  errB K "BadBook" "BadBook.__init__" file && (errB K "OtherTies" "OtherTies.__init__" file && ([
    decide (findIn K (.ref (He.ga K "BadBook")) "index" = some none),
    decide (findIn K (.ref (He.ga K "BadBook")) "what" = some none),
    decide (nsIn K PySem.cStatics "thirdparty.any" = some none),
    decide (specialIn K (.builtin "object.__class__") "__get__" = some (some (.builtin "getset_descriptor.__get__"))),
    decide (takesIn K (.builtin "object.__class__") = some true),
    decide (findIn K (.ref (He.ga K "Ties")) "__class__" = some (some (.builtin "object.__class__"))),
    decide (mroIn K (He.ga K "Ties") (.type "object") = some true),
    decide (findIn K (.ref (He.ga K "Book")) "__class__" = some (some (.builtin "object.__class__"))),
    decide (mroIn K (He.ga K "Book") (.type "object") = some true)] : List Bool).all id)
theorem all_cons {b : Bool} {l : List Bool} (h : (b :: l).all id = true) : b = true ∧ l.all id = true := He.ba (by simpa using h)
structure ErrF (K : Frag) (P : Program) (C G fI : Addr) (qual : Str) (st : Stmt) : Prop where
  cls : ∃ nm q N bs bm sn sub ab col dd k0 k1 k2 k3 k5, K.lookup C = some (excClassObj nm q C N bs bm true sn sub ab col dd k0 k1 k2 k3 k5 "ValueError.__new__") ∧ PySem.HandSPX.refsVE bm = true
  fn : ∃ (oc : Value) (od : Option Addr) (kV doc pm : Value) (an : Option Addr) (cda cc : Addr) (ct : Value) (osl : Array (Option Value)) (ccl : Value) (cdd : Option Addr) (vs : Array Value) (ccs : Array (Option Value)) (file : Str) (tf : Tok) (cl : Value) (cld : Option Addr) (csl : Array (Option Value)),
    K.lookup fI = some ⟨oc, od, .func (ksFn "__init__" qual (defArgs st) (defBody st) (defScope st) .none kV doc pm an (.ref cda) ct cc), osl⟩ ∧ codeIn K (.ref cda) qual = true ∧
    K.lookup cda = some ⟨ccl, cdd, .fields vs, ccs⟩ ∧ vs[2]? = some (.str file tf) ∧ ((P.main.file : Str) == file) = true ∧ K.lookup cc = some ⟨cl, cld, .cell (some (.ref C)), csl⟩
  sa : findIn K (.ref C) "__setattr__" = some (some (.builtin "object.__setattr__"))
  sup : ks_superIn K C C "__init__" = some (some (.builtin "ValueError.__init__"))
  isV : subIn K (.ref C) (.type "ValueError") = some true
  me : mroIn K C (.ref C) = some true
  iC : findIn K (.ref C) "__init__" = some (some (.ref fI))
  tI : typeIn K (.ref fI) = some (.type "function")
  kC : keepIn K (.ref C) = true
  exC : subIn K (.ref C) (.type "BaseException") = some true
  tyC : typeIn K (.ref C) = some (.type "type")
  hg : findIn K (.ref C) "__getattribute__" = some (some (.builtin "BaseException.__getattribute__"))
  hk : findIn K (.ref C) "__getattr__" = some none
  hd : hasDictIn K C = true
  ha : findIn K (.ref C) "__class__" = some (some (.builtin "object.__class__"))
  hm : mroIn K C (.type "object") = some true
  exm : exmOne K (.ref C) (.ref C) = some true
  kit : kitOne K (.ref C) (.ref G) = some true
theorem errB_ok {K : Frag} {P : Program} {x qual : Str} {st : Stmt} (e : fnC K x = valC qual st) (h : errB K x qual P.main.file = true) : ErrF K P (He.ga K x) (He.ga K "GuestError") (He.ma K (He.ga K x) "__init__") qual st := by
  unfold errB at h
  obtain ⟨h1, h⟩ := He.ba h
  obtain ⟨h2, h⟩ := He.ba h
  obtain ⟨a1, h⟩ := all_cons h
  obtain ⟨a2, h⟩ := all_cons h
  obtain ⟨a3, h⟩ := all_cons h
  obtain ⟨a4, h⟩ := all_cons h
  obtain ⟨a5, h⟩ := all_cons h
  obtain ⟨a6, h⟩ := all_cons h
  obtain ⟨a7, h⟩ := all_cons h
  obtain ⟨a8, h⟩ := all_cons h
  obtain ⟨a9, h⟩ := all_cons h
  obtain ⟨b1, h⟩ := all_cons h
  obtain ⟨b2, h⟩ := all_cons h
  obtain ⟨b3, h⟩ := all_cons h
  obtain ⟨b4, h⟩ := all_cons h
  obtain ⟨b5, h⟩ := all_cons h
  obtain ⟨b6, h⟩ := all_cons h
  obtain ⟨b7, h⟩ := all_cons h
  exact ⟨clsB_ok h1, fnC_ok e h2, of_decide_eq_true a1, of_decide_eq_true a2, of_decide_eq_true a3, of_decide_eq_true a4, of_decide_eq_true a5, of_decide_eq_true a6, a7, of_decide_eq_true a8, of_decide_eq_true a9, of_decide_eq_true b1, of_decide_eq_true b2, b3, of_decide_eq_true b4, of_decide_eq_true b5, of_decide_eq_true b6, of_decide_eq_true b7⟩
/-! ### the Hook -/
abbrev AlZ : Type := He.AlD × Bool × FnC × FnC
def obsZK (file : Str) (K : Frag) : AlZ := (He.obsD fa fn K, exZ K file, fnC K "BadBook", fnC K "OtherTies")
def valZ : AlZ := (He.valD fn, true, valC "BadBook.__init__" s_BadBook_init, valC "OtherTies.__init__" s_OtherTies_init)
def frZ (n : Nat) (g : Addr → Option Obj) : Frag := He.frG g (PySem.cStatics :: He.asD g n)
def hookZ (n : Nat) (file : Str) : PySem.W.Hook where
  α := AlZ
  obs := fun s => obsZK file (frZ n s.heap.get?)
  val := fun _ => valZ
  says := fun _ h => ∃ K : Frag, K.In h ∧ obsZK file K = valZ
  of := fun _ _ e => ⟨_, He.frG_in, e⟩
  keeps := fun _ _ _ ⟨K, hK, c⟩ k => ⟨K, PySem.W.Frag.In.keeps hK k, c⟩
theorem saysZ {K : Frag} {P : Program} {mg : Str → Option Value} {h : Heap} (X : K.In h) (G : h.Ns mainGlobals mg) (c : obsZK P.main.file K = valZ) (ht : (P.main.scope.names.lookup ("super" : Str)).isSome = false) : Tz K mg P := by
  have e1 : He.obsD fa fn K = He.valD fn := congrArg (fun z : AlZ => z.1) c
  have e2 : exZ K P.main.file = true := congrArg (fun z : AlZ => z.2.1) c
  have e3 : fnC K "BadBook" = valC "BadBook.__init__" s_BadBook_init := congrArg (fun z : AlZ => z.2.2.1) c
  have e4 : fnC K "OtherTies" = valC "OtherTies.__init__" s_OtherTies_init := congrArg (fun z : AlZ => z.2.2.2) c
  have t0 : Tx0 K mg := ⟨e1, h, X, G⟩
  unfold exZ at e2
  obtain ⟨h1, e2⟩ := He.ba e2
  obtain ⟨h2, e2⟩ := He.ba e2
  obtain ⟨a1, e2⟩ := all_cons e2
  obtain ⟨a2, e2⟩ := all_cons e2
  obtain ⟨a3, e2⟩ := all_cons e2
  obtain ⟨a4, e2⟩ := all_cons e2
  obtain ⟨a5, e2⟩ := all_cons e2
  obtain ⟨a6, e2⟩ := all_cons e2
  obtain ⟨a7, e2⟩ := all_cons e2
  obtain ⟨a8, e2⟩ := all_cons e2
  obtain ⟨a9, e2⟩ := all_cons e2
  have a3 := of_decide_eq_true a3
  have a4 := of_decide_eq_true a4
  have a5 := of_decide_eq_true a5
  have bb := errB_ok (P := P) e3 h1
  have ot := errB_ok (P := P) e4 h2
  have mk : ∀ {C fI : Addr} {qual : Str} {st : Stmt}, ErrF K P C (He.ga K "GuestError") fI qual st → ErrTxt K mg P C fI qual st ∧ ErrIs K C (He.ga K "GuestError") := fun {C fI qual st} f =>
    ⟨⟨⟨f.cls, f.sa, f.sup, f.isV, f.me, a3, t0.f_super, ht⟩, f.fn, f.iC, f.tI, f.kC, f.exC, f.tyC⟩, ⟨⟨f.hg, f.hk, f.exC, f.hd, f.ha, a4, a5, f.hm⟩, ⟨f.hg, f.hk, f.exC, f.hd⟩, f.exm, f.kit⟩⟩
  exact ⟨⟨⟨t0, ⟨of_decide_eq_true a6, a4, a5, of_decide_eq_true a7⟩, ⟨of_decide_eq_true a8, a4, a5, of_decide_eq_true a9⟩⟩, ⟨_, (mk bb).1⟩, of_decide_eq_true a1, of_decide_eq_true a2, ⟨_, (mk ot).1⟩⟩, (mk bb).2, (mk ot).2⟩
end Z
set_option Elab.async false
set_option linter.all false
set_option maxRecDepth 100000
set_option maxHeartbeats 2000000
namespace Z
open PySem PySem.Spec PyProof.Rows L2
theorem Cal.mono {P : Program} {w : World} {K : PySem.W.Frag} {mg : Str → Option Value} {base : Heap} {CX : CXT} {j k : Nat} {x : Str} {ps : List Str} {sp : Sp} (C : Cal P w K mg base CX j x ps sp) (h : j ≤ k) : Cal P w K mg base CX k x ps sp := by
  obtain ⟨⟨fd, F, b⟩, kp, g⟩ := C
  exact ⟨⟨fd, F.mono h, b⟩, kp, g⟩
theorem all_ok {P : Program} {w : World} {K : PySem.W.Frag} {mg : Str → Option Value} (T : Tz K mg P) : ∃ fd : FuncData, (∀ (s : Shared) (v : Value), BindsTo s fd ⟨[v], []⟩ [("_law_script", v)]) ∧ ∀ base : Heap, FnOk P w K mg base CX0 12 (He.ga K "law") fd ["_law_script"] (spLaw K) := by
  obtain ⟨fd, F⟩ := T.F_law
  have b := FunD.bindsA (ps := ["_law_script"]) F fun _ _ _ _ _ _ us hl => match us, hl with | [_], _ => rfl
  refine ⟨fd, fun s v => b s [v] rfl, fun base => ?_⟩
  have T1 : Ty K mg P := T.toTy
  have T0 : Tx K mg := T1.toTx
  have C_is_whole : Cal P w K mg base CX0 3 "is_whole" ["thing", "low", "high"] (spWhole K) := ok_is_whole T0  (fun vs H Q E h => Pro.len (n := 3) (fun i => rfl) h) (fun vs H Q E h => run_pro (n := 0) (fun i => rfl) (fun i => tr_is_whole  i) h)
  have C_is_label : Cal P w K mg base CX0 4 "is_label" ["thing"] (spLabel K) := ok_is_label T0 C_is_whole (fun vs H Q E h => Pro.len (n := 1) (fun i => rfl) h) (fun vs H Q E h => run_pro (n := 0) (fun i => rfl) (fun i => tr_is_label  i) h)
  have C_Ties_init : CalC P w K mg base CX0 4 "Ties" ["self", "backs"] (spTies K) := ok_Ties_init T0 C_is_whole (fun vs H Q E h => ProC.len (n := 2) (fun i => rfl) h) (fun vs H Q E h => run_proC (n := 2) (fun i => rfl) (fun i => tr_Ties_init T0 i) h)
  have C_Ties_eq : CalM P w K mg base CX0 3 "Ties" "__eq__" ["self", "other"] (spTeq K) := ok_Ties_eq T0  (fun vs H Q E h => Pro.len (n := 2) (fun i => rfl) h) (fun vs H Q E h => run_pro (n := 0) (fun i => rfl) (fun i => tr_teq T0 i) h)
  have C_row_word : Cal P w K mg base CX0 4 "_row_word" ["ties", "row", "length"] (spRow K) := ok_row_word T0 C_is_whole (fun vs H Q E h => Pro.len (n := 3) (fun i => rfl) h) (fun vs H Q E h => run_pro (n := 1) (fun i => rfl) (fun i => tr_row_word T0 i) h)
  have C_check : Cal P w K mg base CX0 5 "_check" ["ties", "guests", "rows"] (spChk K) := ok_check T0 C_row_word C_is_label (fun vs H Q E h => Pro.len (n := 3) (fun i => rfl) h) (fun vs H Q E h => run_pro (n := 2) (fun i => rfl) (fun i => tr_check T0 i) h)
  have C_Company_init : CalC P w K mg base CX0 6 "Company" ["self", "ties", "guests", "rows"] (spCo K) := ok_Company_init T0 C_check (fun vs H Q E h => ProC.len (n := 4) (fun i => rfl) h) (fun vs H Q E h => run_proC (n := 1) (fun i => rfl) (fun i => tr_Company_init T0 i) h)
  have C_Company_tie_at : CalM P w K mg base CX0 3 "Company" "tie_at" ["self", "one", "other"] (spTie K) := ok_Company_tie_at T0  (fun vs H Q E h => Pro.len (n := 3) (fun i => rfl) h) (fun vs H Q E h => run_pro (n := 0) (fun i => rfl) (fun i => tr_tie_at T0 i) h)
  have C_Company_len : CalM P w K mg base CX0 3 "Company" "__len__" ["self"] (spLen K) := ok_Company_len T0  (fun vs H Q E h => Pro.len (n := 1) (fun i => rfl) h) (fun vs H Q E h => run_pro (n := 0) (fun i => rfl) (fun i => tr_len T0 i) h)
  have C_is_three : Cal P w K mg base CX0 4 "is_three" ["ties", "thing"] (spTh K) := ok_is_three T0 C_is_whole (fun vs H Q E h => Pro.len (n := 2) (fun i => rfl) h) (fun vs H Q E h => run_pro (n := 1) (fun i => rfl) (fun i => tr_is_three T0 i) h)
  have C_six : Cal P w K mg base CX0 3 "_six" ["ties", "three"] (spSix K) := ok_six T0  (fun vs H Q E h => Pro.len (n := 2) (fun i => rfl) h) (fun vs H Q E h => run_pro (n := 4) (fun i => rfl) (fun i => tr_six T0 i) h)
  have C_readings_of : Cal P w K mg base CX0 5 "readings_of" ["ties", "three"] (spRd K) := ok_readings_of T0 C_is_three C_six (fun vs H Q E h => Pro.len (n := 2) (fun i => rfl) h) (fun vs H Q E h => run_pro (n := 0) (fun i => rfl) (fun i => tr_readings_of T0 i) h)
  have C_check_threes : Cal P w K mg base CX0 5 "_check_threes" ["ties", "threes", "what"] (spCt K) := ok_check_threes T0 C_is_three (fun vs H Q E h => Pro.len (n := 3) (fun i => rfl) h) (fun vs H Q E h => run_pro (n := 2) (fun i => rfl) (fun i => tr_check_threes T0 i) h)
  have C_is_couple : Cal P w K mg base CX0 4 "_is_couple" ["ties", "thing"] (spIc K) := ok_is_couple T0 C_is_whole (fun vs H Q E h => Pro.len (n := 2) (fun i => rfl) h) (fun vs H Q E h => run_pro (n := 0) (fun i => rfl) (fun i => tr_is_couple T0 i) h)
  have C_Book_init : CalC P w K mg base CX0 6 "Book" ["self", "ties", "barred"] (spBk K) := ok_Book_init T0 C_check_threes C_readings_of (fun vs H Q E h => ProC.len (n := 3) (fun i => rfl) h) (fun vs H Q E h => run_proC (n := 7) (fun i => rfl) (fun i => tr_Book_init T0 i) h)
  have C_Book_check_backs : CalM P w K mg base CX0 3 "Book" "_check_backs" ["self", "backs"] (spCb K) := ok_Book_check_backs T0  (fun vs H Q E h => Pro.len (n := 2) (fun i => rfl) h) (fun vs H Q E h => run_pro (n := 0) (fun i => rfl) (fun i => tr_check_backs T0 i) h)
  have C_Book_company_fault : CalM P w K mg base CX0 6 "Book" "company_fault" ["self", "company"] (spFau K) := ok_Book_company_fault T0 C_Book_check_backs C_Company_len C_Company_tie_at (fun vs H Q E h => Pro.len (n := 2) (fun i => rfl) h) (fun vs H Q E h => run_pro (n := 5) (fun i => rfl) (fun i => tr_fault T0 i) h)
  have C_Book_lets : CalM P w K mg base CX0 7 "Book" "lets" ["self", "company"] (spLets K) := ok_Book_lets T0 C_Book_company_fault (fun vs H Q E h => Pro.len (n := 2) (fun i => rfl) h) (fun vs H Q E h => run_pro (n := 0) (fun i => rfl) (fun i => tr_lets T0 i) h)
  have C_Book_eq : CalM P w K mg base CX0 6 "Book" "__eq__" ["self", "other"] (spBeq K) := ok_Book_eq T0 C_Ties_eq (fun vs H Q E h => Pro.len (n := 2) (fun i => rfl) h) (fun vs H Q E h => run_pro (n := 0) (fun i => rfl) (fun i => tr_beq T0 i) h)
  have C_keeps_backs : Cal P w K mg base CX0 3 "_keeps_backs" ["ties", "names"] (spKb K) := ok_keeps_backs T0  (fun vs H Q E h => Pro.len (n := 2) (fun i => rfl) h) (fun vs H Q E h => run_pro (n := 1) (fun i => rfl) (fun i => tr_keeps_backs T0 i) h)
  have C_all_names : Cal P w K mg base CX0 4 "_all_names" ["ties"] (spAn K) := ok_all_names T0 C_keeps_backs (fun vs H Q E h => Pro.len (n := 1) (fun i => rfl) h) (fun vs H Q E h => run_pro (n := 4) (fun i => rfl) (fun i => tr_all_names T0 i) h)
  have C_law_mix : Cal P w K mg base CX0 3 "_law_mix" ["_law_number", "_law_turn"] (spMix K) := ok_law_mix T0  (fun vs H Q E h => Pro.len (n := 2) (fun i => rfl) h) (fun vs H Q E h => run_pro (n := 2) (fun i => rfl) (fun i => tr_mix  i) h)
  have C_law_hand : Cal P w K mg base CX0 3 "_law_hand" ["_law_script"] (spHd K) := ok_law_hand T0  (fun vs H Q E h => Pro.len (n := 1) (fun i => rfl) h) (fun vs H Q E h => run_pro (n := 3) (fun i => rfl) (fun i => tr_law_hand  i) h)
  have C_law_draw : Cal P w K mg base CX0 4 "_law_draw" ["_law_hand_here", "_law_many"] (spDr K) := ok_law_draw T0 C_law_mix (fun vs H Q E h => Pro.len (n := 2) (fun i => rfl) h) (fun vs H Q E h => run_pro (n := 2) (fun i => rfl) (fun i => tr_draw  i) h)
  have C_law_pick : Cal P w K mg base CX0 5 "_law_pick" ["_law_hand_here", "_law_things"] (spPk K) := ok_law_pick T0 C_law_draw (fun vs H Q E h => Pro.len (n := 2) (fun i => rfl) h) (fun vs H Q E h => run_pro (n := 0) (fun i => rfl) (fun i => tr_pick  i) h)
  have C_law_pick_o : Cal P w K mg base CX0 5 "_law_pick" ["_law_hand_here", "_law_things"] (spPko K) := ok_law_pick T0 C_law_draw (fun vs H Q E h => Pro.len (n := 2) (fun i => rfl) h) (fun vs H Q E h => run_pro (n := 0) (fun i => rfl) (fun i => tr_pickO  i) h)
  have C_law_backs : Cal P w K mg base CX0 5 "_law_backs" ["_law_hand_here", "_law_many"] (spLb K) := ok_law_backs T0 C_law_draw (fun vs H Q E h => Pro.len (n := 2) (fun i => rfl) h) (fun vs H Q E h => run_pro (n := 5) (fun i => rfl) (fun i => tr_law_backs  i) h)
  have C_law_readings : Cal P w K mg base CX0 3 "_law_readings" ["_law_backs_here", "_law_p", "_law_q", "_law_r"] (spLr K) := ok_law_readings T0  (fun vs H Q E h => Pro.len (n := 4) (fun i => rfl) h) (fun vs H Q E h => run_pro (n := 0) (fun i => rfl) (fun i => tr_law_readings  i) h)
  have C_law_classes : Cal P w K mg base CX0 4 "_law_classes" ["_law_backs_here"] (spLc K) := ok_law_classes T0 C_law_readings (fun vs H Q E h => Pro.len (n := 1) (fun i => rfl) h) (fun vs H Q E h => run_pro (n := 5) (fun i => rfl) (fun i => tr_law_classes  i) h)
  have C_law_let : Cal P w K mg base CX0 4 "_law_let" ["_law_backs_here", "_law_classes_here"] (spLt K) := ok_law_let T0 C_law_readings (fun vs H Q E h => Pro.len (n := 2) (fun i => rfl) h) (fun vs H Q E h => run_pro (n := 8) (fun i => rfl) (fun i => tr_law_let  i) h)
  have C_law_barred : Cal P w K mg base CX0 3 "_law_barred" ["_law_world"] (spBa K) := ok_law_barred T0  (fun vs H Q E h => Pro.len (n := 1) (fun i => rfl) h) (fun vs H Q E h => run_pro (n := 5) (fun i => rfl) (fun i => tr_law_barred  i) h)
  have C_law_any_world : Cal P w K mg base CX0 6 "_law_any_world" ["_law_hand_here", "_law_many"] (spAw K) := ok_law_any_world T0 C_law_backs C_law_draw C_law_let C_law_classes (fun vs H Q E h => Pro.len (n := 2) (fun i => rfl) h) (fun vs H Q E h => run_pro (n := 3) (fun i => rfl) (fun i => tr_any_world  i) h)
  have C_law_bars_handed : Cal P w K mg base CX0 6 "_law_bars_handed" ["_law_hand_here", "_law_world"] (spBh K) := ok_law_bars_handed T0 C_law_classes C_law_draw C_law_pick C_law_readings (fun vs H Q E h => Pro.len (n := 2) (fun i => rfl) h) (fun vs H Q E h => run_pro (n := 5) (fun i => rfl) (fun i => tr_bars_handed  i) h)
  have C_law_labels : Cal P w K mg base CX0 5 "_law_labels" ["_law_hand_here", "_law_many"] (spLl K) := ok_law_labels T0 C_law_draw (fun vs H Q E h => Pro.len (n := 2) (fun i => rfl) h) (fun vs H Q E h => run_pro (n := 3) (fun i => rfl) (fun i => tr_law_labels  i) h)
  have C_law_fits : Cal P w K mg base CX0 3 "_law_fits" ["_law_world", "_law_table"] (spFi K) := ok_law_fits T0  (fun vs H Q E h => Pro.len (n := 2) (fun i => rfl) h) (fun vs H Q E h => run_pro (n := 5) (fun i => rfl) (fun i => tr_law_fits  i) h)
  have C_law_rows : Cal P w K mg base CX0 3 "_law_rows" ["_law_table"] (spRw K) := ok_law_rows T0  (fun vs H Q E h => Pro.len (n := 1) (fun i => rfl) h) (fun vs H Q E h => run_pro (n := 1) (fun i => rfl) (fun i => tr_law_rows  i) h)
  have C_law_company : Cal P w K mg base CX0 9 "_law_company" ["_law_backs_here", "_law_labels_here", "_law_table"] (spLco K) := ok_law_company T0 C_Company_init C_Ties_init C_law_rows (fun vs H Q E h => Pro.len (n := 3) (fun i => rfl) h) (fun vs H Q E h => run_pro (n := 0) (fun i => rfl) (fun i => tr_law_company  i) h)
  have C_law_book : Cal P w K mg base CX0 9 "_law_book" ["_law_hand_here", "_law_world"] (spLbk K) := ok_law_book T0 C_Book_init C_Ties_init C_law_bars_handed (fun vs H Q E h => Pro.len (n := 2) (fun i => rfl) h) (fun vs H Q E h => run_pro (n := 0) (fun i => rfl) (fun i => tr_law_book  i) h)
  have C_law_shape : Cal P w K mg base CX0 5 "_law_shape" ["_law_hand_here", "_law_row"] (spSh K) := ok_law_shape T0 C_law_draw (fun vs H Q E h => Pro.len (n := 2) (fun i => rfl) h) (fun vs H Q E h => run_pro (n := 0) (fun i => rfl) (fun i => tr_law_shape  i) h)
  have C_law_drawn_table : Cal P w K mg base CX0 5 "_law_drawn_table" ["_law_hand_here", "_law_backs_here", "_law_size"] (spDt K) := ok_law_drawn_table T0 C_law_draw (fun vs H Q E h => Pro.len (n := 3) (fun i => rfl) h) (fun vs H Q E h => run_pro (n := 5) (fun i => rfl) (fun i => tr_law_drawn_table  i) h)
  have C_pl0 : Cal P w K mg base CX0 3 "_law_plain" ["_law_answer", "_law_due_here"] (spPl K 0) := ok_law_plain0 T0
  have C_pl : ∀ n, Cal P w K mg base CX0 (n + 3) "_law_plain" ["_law_answer", "_law_due_here"] (spPl K n) := fun n => by
    induction n with
    | zero => exact C_pl0
    | succ n ih => exact ok_law_plain T0 ih (fun vs H Q E h => Pro.len (n := 2) (fun i => rfl) h) fun vs H Q E h => run_pro (n := 2) (fun i => rfl) (fun i => tr_law_plain n i) h
  have C_law_plain3 : Cal P w K mg base CX0 9 "_law_plain" ["_law_answer", "_law_due_here"] (spPl K 3) := (C_pl 3).mono (by decide)
  have C_law_plain4 : Cal P w K mg base CX0 9 "_law_plain" ["_law_answer", "_law_due_here"] (spPl K 4) := (C_pl 4).mono (by decide)
  have C_law_same_barred : Cal P w K mg base CX0 10 "_law_same_barred" ["_law_book_here", "_law_world"] (spSb K) := ok_law_same_barred T0 C_law_barred C_law_plain3 (fun vs H Q E h => Pro.len (n := 2) (fun i => rfl) h) (fun vs H Q E h => run_pro (n := 1) (fun i => rfl) (fun i => tr_law_same_barred T0 i) h)
  have C_law_orders : Cal P w K mg base CX0 3 "_law_orders" ["_law_size"] (spOr K) := ok_law_orders T0  (fun vs H Q E h => Pro.len (n := 1) (fun i => rfl) h) (fun vs H Q E h => run_pro (n := 5) (fun i => rfl) (fun i => tr_law_orders  i) h)
  have C_law_namings : Cal P w K mg base CX0 4 "_law_namings" ["_law_backs_here"] (spNa K) := ok_law_namings T0 C_law_orders (fun vs H Q E h => Pro.len (n := 1) (fun i => rfl) h) (fun vs H Q E h => run_pro (n := 4) (fun i => rfl) (fun i => tr_law_namings  i) h)
  have C_law_renamed_world : Cal P w K mg base CX0 5 "_law_renamed_world" ["_law_world", "_law_names"] (spRn K) := ok_law_renamed_world T0 C_law_let C_law_barred (fun vs H Q E h => Pro.len (n := 2) (fun i => rfl) h) (fun vs H Q E h => run_pro (n := 3) (fun i => rfl) (fun i => tr_law_renamed_world  i) h)
  have C_law_shuffled : Cal P w K mg base CX0 5 "_law_shuffled" ["_law_hand_here", "_law_things"] (spShf K) := ok_law_shuffled T0 C_law_draw (fun vs H Q E h => Pro.len (n := 2) (fun i => rfl) h) (fun vs H Q E h => run_pro (n := 2) (fun i => rfl) (fun i => tr_shuffledF  i) h)
  have C_law_due : Cal P w K mg base CX0 3 "_law_due" ["_law_backs_here", "_law_pairs"] (spDu K) := ok_law_due T0  (fun vs H Q E h => Pro.len (n := 2) (fun i => rfl) h) (fun vs H Q E h => run_pro (n := 6) (fun i => rfl) (fun i => tr_law_due  i) h)
  have C_law_due_between : Cal P w K mg base CX0 6 "_law_due_between" ["_law_first", "_law_second"] (spDb K) := ok_law_due_between T0 C_law_namings C_law_barred C_law_renamed_world (fun vs H Q E h => Pro.len (n := 2) (fun i => rfl) h) (fun vs H Q E h => run_pro (n := 2) (fun i => rfl) (fun i => tr_law_due_between  i) h)
  have C_names_of : Cal P w K mg base (L2.CX P w) 5 "_names_of" ["ties", "pairs"] (spNo K) := ok_names_of T1 C_is_couple (fun vs H Q E h => ProX.len (n := 2) (fun i => rfl) h) (fun vs H Q E h => run_proX (n := 3) (fun i => rfl) (fun i => tr_names_of T1 i) h)
  have C_check_alike : Cal P w K mg base (L2.CX P w) 3 "_check_alike" ["one", "other"] (spChA K) := ok_check_alike T1  (fun vs H Q E h => Pro.len (n := 2) (fun i => rfl) h) (fun vs H Q E h => run_pro (n := 0) (fun i => rfl) (fun i => tr_check_alike T0 i) h)
  have C_check_alike_o : Cal P w K mg base (L2.CX P w) 3 "_check_alike" ["one", "other"] (spChO K) := ok_check_alike T1  (fun vs H Q E h => ProO.len (n := 2) (fun i => rfl) h) (fun vs H Q E h => run_check_other T0 h)
  have C_Book_renamed_ties : CalM P w K mg base (L2.CX P w) 9 "Book" "renamed_ties" ["self", "pairs"] (spRt K) := ok_Book_renamed_ties T1 C_names_of C_Book_init (fun vs H Q E h => ProX.len (n := 2) (fun i => rfl) h) (fun vs H Q E h => run_proX (n := 4) (fun i => rfl) (fun i => tr_Book_renamed_ties T1 i) h)
  have C_same_up_to_names : Cal P w K mg base (L2.CX P w) 10 "same_up_to_names" ["one", "other"] (spSun K) := ok_same_up_to_names T1 C_check_alike C_all_names C_Book_eq C_Book_renamed_ties (fun vs H Q E h => Pro.len (n := 2) (fun i => rfl) h) (fun vs H Q E h => run_pro (n := 4) (fun i => rfl) (fun i => tr_same_up_to_names T0 i) h)
  have C_same_up_to_names_o : Cal P w K mg base (L2.CX P w) 10 "same_up_to_names" ["one", "other"] (spSunO K) := ok_same_up_to_names T1 C_check_alike_o C_all_names C_Book_eq C_Book_renamed_ties (fun vs H Q E h => ProO.len (n := 2) (fun i => rfl) h) (fun vs H Q E h => run_same_other h)
  have C_least_book : Cal P w K mg base CX0 10 "least_book" ["book"] (spLeast K) := ok_least_book T1 C_all_names C_Book_renamed_ties (fun vs H Q E h => Pro.len (n := 1) (fun i => rfl) h) (fun vs H Q E h => run_pro (n := 3) (fun i => rfl) (fun i => tr_least_book T0 i) h)
  have C_law_refusal : Cal P w K mg base CX0 10 "_law_refusal" ["_law_book_here", "_law_pairs"] (spRf K) := ok_law_refusal T C_Book_renamed_ties (fun vs H Q E h => Pro.len (n := 2) (fun i => rfl) h) (fun vs H Q E h => run_pro (n := 1) (fun i => rfl) (fun i => tr_law_refusal T i) h)
  have C_law_refusals_right : Cal P w K mg base CX0 11 "_law_refusals_right" ["_law_hand_here", "_law_book_here", "_law_backs_here"] (spRr K) := ok_law_refusals_right T C_law_shuffled C_law_pick C_law_draw C_law_refusal C_law_due C_law_orders C_law_pick_o (fun vs H Q E h => Pro.len (n := 3) (fun i => rfl) h) (fun vs H Q E h => run_pro (n := 7) (fun i => rfl) (fun i => tr_refusals_right  i) h)
  have C_law : FnOk P w K mg base CX0 12 (He.ga K "law") fd ["_law_script"] (spLaw K) := ok_law T C_law_hand C_law_pick C_law_any_world C_law_book C_law_namings C_law_shuffled C_Book_renamed_ties C_law_renamed_world C_law_same_barred C_law_drawn_table C_law_labels C_law_refusals_right C_law_plain4 C_law_draw C_law_due_between C_law_shape C_same_up_to_names C_law_let C_Book_eq C_Book_lets C_law_fits C_least_book C_law_barred C_law_company C_law_classes C_same_up_to_names_o (fun vs H Q E h => Pro.len (n := 1) (fun i => rfl) h) (fun vs H Q E h => run_pro (n := 25) (fun i => rfl) (fun i => tr_law T i) h) F
  exact C_law
end Z
set_option Elab.async false
set_option linter.all false
set_option maxRecDepth 100000
set_option maxHeartbeats 0
namespace Z
open PySem PySem.Spec PyProof.Rows L2
abbrev Rw : PySem.W.OpenRow := PySem.W.OpenLaw.row PySem.Challenge.rw_joinedguests_k15_whole_renamed_ties
abbrev fileZ : Str := PySem.Challenge.pw_joinedguests_k15_whole_renamed_ties.main.file
def obZ (s : PySem.W.SharedT) : AlZ := obsZK fileZ (frZ 4 (HandSHeadRun.getT s))
theorem obZ_eq (s : PySem.W.SharedT) : obZ s = (hookZ 4 fileZ).obs s.abs := by
  have e : HandSHeadRun.getT s = s.abs.heap.get? := funext (HandSHeadRun.getT_eq s)
  show obsZK fileZ (frZ 4 (HandSHeadRun.getT s)) = obsZK fileZ (frZ 4 s.abs.heap.get?)
  rw [e]
theorem runZ (w : World) : HandSHeadRun.RunEq Rw (PySem.W.view Rw.prog [65]) (hookZ 4 fileZ) obZ 40000 loose w := by
  intro os
  kernel_rfl
end Z
set_option Elab.async false
set_option linter.all false
set_option maxRecDepth 100000
set_option maxHeartbeats 0
namespace Z
open PySem PySem.Spec PyProof.Rows L2
/-- the law's promise at a list of numbers -/
theorem law_at {K : PySem.W.Frag} {H : Hp} {a : Addr} {ns : List Int} (hl : ns.length ≤ 63) (hS : SqL K H a (ns.map V.int)) : spLaw K [.ref a] H (fun v _ => v = .bl true) fun _ _ _ => False :=
  ⟨⟨ns, hl⟩, [], [], ⟨List.nodup_nil, fun _ h => absurd h (by simp), fun _ h => absurd h (by simp), trivial, trivial, ⟨slot_of (t := .sem (sSq K ns)) ⟨a, rfl, sqL_ex (fun b o e => (hid_of (by simp)).trans e) hS⟩, trivial⟩⟩, fun r v H' hr _ _ _ hv => by
    cases (show r = .tv (.d (.bool true)) from hr)
    have hq : Dq K _ v (.bool true) := hv
    cases hq
    rfl⟩
end Z
open PySem PySem.W PySem.Calls PyProof.Rows
theorem PySem.Challenge.cw_joinedguests_k15_whole_renamed_ties_holds : PySem.Challenge.rw_joinedguests_k15_whole_renamed_ties.Holds := by
  w_on; o_law
  refine HandSHeadRun.head_any (r := OpenLaw.row PySem.Challenge.rw_joinedguests_k15_whole_renamed_ties) (q := view (OpenLaw.row PySem.Challenge.rw_joinedguests_k15_whole_renamed_ties).prog [65]) (H := Z.hookZ 4 Z.fileZ) (ob := Z.obZ) (M := 40000) (loose := Z.loose) (d := HandSHeadRun.topDef (OpenLaw.row PySem.Challenge.rw_joinedguests_k15_whole_renamed_ties).prog 65) (kwd := []) Z.obZ_eq
    (by kernel_rfl) (fun s => by kernel_rfl) Z.runZ (by kernel_rfl) (by kernel_rfl) (by kernel_rfl) (by rfl) (by first | assumption | decide +kernel) (by decide +kernel) ⟨rfl, rfl, rfl, rfl, rfl, by decide +kernel⟩ ?hw ?hc
  case hw => w_witness2
  case hc =>
    refine L2.walk_ofE (l := PySem.Challenge.rw_joinedguests_k15_whole_renamed_ties) (n := 63) (k := 12) (x := "_law_script") (CX := L2.CX0) rfl (by decide) (by kernel_rfl) ⟨rfl, by decide, by decide⟩ ?F (fun _ _ _ _ z => z)
    intro w mg fa h Y G hmg0
    obtain ⟨K, KX, c⟩ := Y
    have hmg : mg ("law" : PySem.Str) = some (.ref fa) := by
      have e : (HandSHeadRun.topDef (OpenLaw.row PySem.Challenge.rw_joinedguests_k15_whole_renamed_ties).prog 65).name = ("law" : PySem.Str) := by kernel_rfl
      rw [← e]
      exact hmg0
    have T : Z.Tz K mg (PySem.Challenge.rw_joinedguests_k15_whole_renamed_ties).prog := Z.saysZ KX G c (by decide +kernel)
    have e := hmg.symm.trans T.g_law
    cases e
    obtain ⟨fd, hb, hF⟩ := Z.all_ok (w := w) T
    exact ⟨K, fd, Z.spLaw K, KX, hb, fun H a ns hl _ hS => Z.law_at hl hS, fun base _ _ => hF base⟩
