import PyProof.Rows.All
import Wide.All
import OpenK.AllK
import Wide.FinOn
import HandS.ForMost
import HandS.Zip
import HandS.Deep
import HandS.IsInst
import HandS.Style
import HandS.Flow
import HandS.SetBool
import HandS.Wide
import HandS.Conv
import HandS.Lambda
import HandS.TupAny
import KE.KDictWalk
import HandS.DictTup
import HandS.ListItems
import KE.KDictZip
import KE.SortKeyHeap
import KE.KSortKey
import PySem.Challenge.RW_caskyears_k89_whole_fewest_glasses
import HandS.EndTab
set_option Elab.async false
set_option linter.all false
set_option maxRecDepth 100000
set_option maxHeartbeats 1000000
namespace C9
open PySem PySem.Spec PyProof.Rows L2

/-! ### growing heaps: what is frozen (G, G') within what is tracked (H, H'); a table may get more rows -/
def Sy (o : HO) (x : Option HO) : Prop := match o with
  | .tbl ps => ∃ more : Array Value, x = some (.tbl (ps ++ more))
  | o => x = some o
theorem Sy.of {o : HO} {x : Option HO} (h : x = some o) : Sy o x := by
  cases o with
  | tbl ps => exact ⟨#[], by rw [h]; simp⟩
  | _ => exact h
theorem Sy.isSome {o : HO} {x : Option HO} (h : Sy o x) : x ≠ none := by
  cases o with
  | tbl ps => obtain ⟨m, e⟩ := h; rw [e]; simp
  | _ => rw [show x = _ from h]; simp
def Ex (H H' : Hp) : Prop := ∀ a o, H a = some o → Sy o (H' a)
theorem Ex.of {H H' : Hp} (h : ∀ a o, H a = some o → H' a = some o) : Ex H H' := fun a o e => .of (h a o e)
theorem Ex.refl (H : Hp) : Ex H H := .of fun _ _ h => h
theorem Ex.trans {H H1 H2 : Hp} (a : Ex H H1) (b : Ex H1 H2) : Ex H H2 := fun x o h => by
  have h1 := a x o h
  cases o with
  | tbl ps =>
    obtain ⟨m, e⟩ := h1
    obtain ⟨m2, e2⟩ := (show ∃ more : Array Value, H2 x = some (.tbl ((ps ++ m) ++ more)) from b x _ e)
    exact ⟨m ++ m2, by rw [e2, Array.append_assoc]⟩
  | _ => exact b x _ h1
theorem Ex.new {H : Hp} {p : Addr} {o : HO} (h : H p = none) : Ex H (upd H p o) := .of fun a u e => by
  rw [upd_ne (ne_of_none e h)]
  exact e
theorem Ex.free {H H' : Hp} {p : Addr} (e : Ex H H') (h : H' p = none) : H p = none := by
  cases q : H p with
  | none => rfl
  | some o => exact absurd h (e p o q).isSome
/-- no table -/
def Nt (o : HO) : Prop := match o with
  | .tbl _ => False
  | _ => True
/-- the name of the one lambda -/
def lamQ : Str := "_law_sets.<locals>.<lambda>"
/-- what the tables tell -/
def TabInv (H : Hp) : Prop := ∀ (P : Addr) (ps : Array Value), H P = some (.tbl ps) → TriplesOk ps.toList ∧ ∀ (pos : Pos) (cv : Value), codeAmong pos ps.toList = some cv → ∃ c, cv = .ref c ∧ H c = some (LamX.CodeO c lamQ)
theorem TabInv.put {H : Hp} {p : Addr} {o : HO} (t : TabInv H) (h : H p ≠ some (LamX.CodeO p lamQ)) (n : Nt o) : TabInv (upd H p o) := fun P ps e => by
  by_cases hP : P = p
  · rw [hP, upd_same] at e
    cases e
    exact n.elim
  · rw [upd_ne hP] at e
    obtain ⟨a, b⟩ := t P ps e
    refine ⟨a, fun pos cv hc => ?_⟩
    obtain ⟨c, e1, e2⟩ := b pos cv hc
    exact ⟨c, e1, by rw [upd_ne (fun z => h (by rw [← z]; exact e2))]; exact e2⟩
theorem TabInv.new {H : Hp} {p : Addr} {o : HO} (t : TabInv H) (h : H p = none) (n : Nt o) : TabInv (upd H p o) := t.put (by rw [h]; simp) n
theorem TabInv.lst {H : Hp} {l : Addr} {vs us : List V} (t : TabInv H) (h : H l = some (.lst vs)) : TabInv (upd H l (.lst us)) := t.put (by rw [h]; intro z; unfold LamX.CodeO at z; cases z) trivial
structure Gr (G H G' H' : Hp) : Prop where
  gg : Ex G G'
  hh : Ex H H'
  gh : Ex G' H'
  ap : ∀ b, H b ≠ none → G b = none → G' b = none
  tb : TabInv H → TabInv H'
theorem Gr.refl {G H : Hp} (e : Ex G H) : Gr G H G H := ⟨Ex.refl _, Ex.refl _, e, fun _ _ h => h, id⟩
theorem Gr.trans {G H G1 H1 G2 H2 : Hp} (a : Gr G H G1 H1) (b : Gr G1 H1 G2 H2) : Gr G H G2 H2 :=
  ⟨a.gg.trans b.gg, a.hh.trans b.hh, b.gh, fun x h1 h2 => b.ap x (fun e => h1 (a.hh.free e)) (a.ap x h1 h2), fun t => b.tb (a.tb t)⟩
/-- a new frozen object -/
theorem Gr.new {G H : Hp} {p : Addr} {o : HO} (e : Ex G H) (h : H p = none) (n : Nt o := by trivial) : Gr G H (upd G p o) (upd H p o) := by
  refine ⟨Ex.new (e.free h), Ex.new h, fun a u q => ?_, fun b h1 h2 => ?_, fun t => t.new h n⟩
  · by_cases ha : a = p
    · subst ha; rw [upd_same] at q ⊢; exact .of q
    · rw [upd_ne ha] at q ⊢; exact e a u q
  · have hb : b ≠ p := fun z => h1 (by rw [z]; exact h)
    rw [upd_ne hb]; exact h2
theorem ne_of_none_sy {G H : Hp} {a p : Addr} {u : HO} (e : Ex G H) (q : G a = some u) (h : H p = none) : a ≠ p := fun z => (e a u q).isSome (by rw [z]; exact h)
theorem Gr.raw {G H : Hp} {p : Addr} {o : HO} (e : Ex G H) (h : H p = none) (n : Nt o := by trivial) : Gr G H G (upd H p o) :=
  ⟨Ex.refl _, Ex.new h, fun a u q => by rw [upd_ne (ne_of_none_sy e q h)]; exact e a u q, fun _ _ h2 => h2, fun t => t.new h n⟩

/-! ### data: none, bools, ints, texts, lists, tuples, all tracked -/
mutual
inductive Dd (H : Hp) : V → PyData → Prop
  | non : Dd H .non .none
  | bl (b : Bool) : Dd H (.bl b) (.bool b)
  | int (i : Int) : Dd H (.int i) (.int i)
  | str (x : Str) : Dd H (.str x) (.str x)
  | lst {a : Addr} {xs : List V} {ds : List PyData} : H a = some (.lst xs) → DdAll H xs ds → Dd H (.ref a) (.list ds)
  | tup {a : Addr} {xs : List V} {ds : List PyData} : H a = some (.tup xs) → DdAll H xs ds → Dd H (.ref a) (.tuple ds)
inductive DdAll (H : Hp) : List V → List PyData → Prop
  | nil : DdAll H [] []
  | cons {v : V} {vs : List V} {d : PyData} {ds : List PyData} : Dd H v d → DdAll H vs ds → DdAll H (v :: vs) (d :: ds)
end
mutual
theorem dd_ex {H H' : Hp} (e : Ex H H') : ∀ {v : V} {d : PyData}, Dd H v d → Dd H' v d
  | _, _, .non => .non
  | _, _, .bl b => .bl b
  | _, _, .int i => .int i
  | _, _, .str x => .str x
  | _, _, .lst h r => .lst (e _ _ h) (dda_ex e r)
  | _, _, .tup h r => .tup (e _ _ h) (dda_ex e r)
theorem dda_ex {H H' : Hp} (e : Ex H H') : ∀ {vs : List V} {ds : List PyData}, DdAll H vs ds → DdAll H' vs ds
  | _, _, .nil => .nil
  | _, _, .cons h r => .cons (dd_ex e h) (dda_ex e r)
end
mutual
theorem Dd.dp {K : PySem.W.Frag} {H : Hp} : ∀ {v : V} {d : PyData}, Dd H v d → Dp K H v d
  | _, _, .non => .non
  | _, _, .bl b => .bl b
  | _, _, .int i => .int i
  | _, _, .str x => .str x
  | _, _, .lst h r => .lst (.inl (.inl h)) (DdAll.dp r)
  | _, _, .tup h r => .tup (.inl (.inl h)) (DdAll.dp r)
theorem DdAll.dp {K : PySem.W.Frag} {H : Hp} : ∀ {vs : List V} {ds : List PyData}, DdAll H vs ds → DpAll K H vs ds
  | _, _, .nil => .nil
  | _, _, .cons h r => .cons (Dd.dp h) (DdAll.dp r)
end
theorem dda_len {H : Hp} : ∀ {vs : List V} {ds : List PyData}, DdAll H vs ds → vs.length = ds.length
  | _, _, .nil => rfl
  | _, _, .cons _ r => by rw [List.length_cons, List.length_cons, dda_len r]
theorem dda_get {H : Hp} : ∀ {vs : List V} {ds : List PyData} {i : Nat} {d : PyData}, DdAll H vs ds → ds[i]? = some d → ∃ v, vs[i]? = some v ∧ Dd H v d
  | _, _, _, _, .nil, e => by simp at e
  | _, _, 0, _, .cons h _, e => by simp at e; subst e; exact ⟨_, rfl, h⟩
  | _, _, i + 1, d, .cons _ r, e => by
    obtain ⟨v, e1, h1⟩ := dda_get (i := i) (d := d) r (by simpa using e)
    exact ⟨v, by simpa using e1, h1⟩
theorem dda_app {H : Hp} : ∀ {vs us : List V} {ds es : List PyData}, DdAll H vs ds → DdAll H us es → DdAll H (vs ++ us) (ds ++ es)
  | _, _, _, _, .nil, s => s
  | _, _, _, _, .cons h r, s => .cons h (dda_app r s)
theorem dda_drop {H : Hp} : ∀ {vs : List V} {ds : List PyData} (n : Nat), DdAll H vs ds → DdAll H (vs.drop n) (ds.drop n)
  | _, _, 0, h => h
  | _, _, n + 1, .nil => .nil
  | _, _, n + 1, .cons _ r => dda_drop n r
theorem dda_take {H : Hp} : ∀ {vs : List V} {ds : List PyData} (n : Nat), DdAll H vs ds → DdAll H (vs.take n) (ds.take n)
  | _, _, 0, h => .nil
  | _, _, n + 1, .nil => .nil
  | _, _, n + 1, .cons h r => .cons h (dda_take n r)

/-! ### slots -/
/-- a dict whose keys are tuples of truth values; xs: key, the key's tuple, the value -/
def DB (P : Program) (w : World) (l : Addr) (xs : List (List Bool × Addr × V)) : HO := .ext fun h =>
  (l == sysModules) = false ∧ ∃ us : List (List Bool × Addr × Value), Paired (fun (x : List Bool × Addr × V) (u : List Bool × Addr × Value) => x.1 = u.1 ∧ x.2.1 = u.2.1 ∧ RelV x.2.2 u.2.2) xs us ∧
    ∃ o es ep, h.get? l = some o ∧ o.ExactDict ∧ o.data = .dict es ep ∧ es.toList = us.map (entryOfKey (tupleKind (PpSet.boolK P w))) ∧ (us.map (·.1)).Nodup
theorem heap_with (l : Addr) (o : Obj) (hf : ∀ x y z, o ≠ ⟨x, y, .freed, z⟩) : ∃ h : Heap, h.get? l = some o := by
  refine ⟨{ objs := Array.replicate (l + 1) o }, ?_⟩
  have e : (Array.replicate (l + 1) o)[l]? = some o := by rw [Array.getElem?_replicate, if_pos (Nat.lt_succ_self l)]
  unfold Heap.get?
  rw [e]
  split
  · rename_i x y z q
    exact absurd (Option.some.inj q) (hf _ _ _)
  · rfl
theorem db_code (P : Program) (w : World) (l : Addr) (xs : List (List Bool × Addr × V)) (q : Str) : DB P w l xs ≠ LamX.CodeO l q := fun z => by
  unfold DB LamX.CodeO at z
  injection z with z
  obtain ⟨h, e⟩ := heap_with l { cls := .none, data := .fields #[.none, .str q 0] } (fun x y z e => by cases e)
  have b : ∃ (oc : Obj) (vs : Array Value) (t : Tok), h.get? l = some oc ∧ oc.data = .fields vs ∧ vs[1]? = some (.str q t) := ⟨_, _, 0, e, rfl, rfl⟩
  have a := congrFun z h
  obtain ⟨_, us, _, o, es, ep, h1, _, h2, _⟩ := a.mpr b
  rw [e] at h1
  cases h1
  cases h2
theorem TabInv.db {H : Hp} {P : Program} {w : World} {l : Addr} {xs : List (List Bool × Addr × V)} {o : HO} (t : TabInv H) (h : H l = some (DB P w l xs)) (n : Nt o) : TabInv (upd H l o) := t.put (by rw [h]; exact fun z => db_code P w l xs _ (Option.some.inj z)) n
structure Pw where
  P : Program
  w : World
  K : PySem.W.Frag
  mg : Str → Option Value
  base : Heap
abbrev pw (X : Cx) : Pw := ⟨X.prog, X.w, X.K, X.mg, X.base⟩
/-- P is the code table of the def that makes the lambda -/
def TabAt (K : PySem.W.Frag) (mg : Str → Option Value) (base : Heap) (P : Addr) : Prop := ∃ (f c : Addr) (o : Obj) (fd : FuncData), mg "_law_sets" = some (.ref f) ∧ K.lookup f = some o ∧ o.data = .func fd ∧ fd.code = .ref c ∧ PySem.W.CodeHd base c P
/-- the tables are there, and right -/
def TabOk (K : PySem.W.Frag) (mg : Str → Option Value) (base : Heap) (H : Hp) : Prop := TabInv H ∧ ∀ P, TabAt K mg base P → ∃ ps, H P = some (.tbl ps)
theorem TabOk.gr {K : PySem.W.Frag} {mg : Str → Option Value} {base : Heap} {G H G' H' : Hp} (t : TabOk K mg base H) (g : Gr G H G' H') : TabOk K mg base H' := ⟨g.tb t.1, fun P hP => by
  obtain ⟨ps, e⟩ := t.2 P hP
  obtain ⟨m, e'⟩ := (show ∃ more : Array Value, H' P = some (.tbl (ps ++ more)) from g.hh _ _ e)
  exact ⟨_, e'⟩⟩
inductive Sl where
  | no
  | val (d : PyData)
  | own (ds : List PyData)
  | oat (l : Addr) (ds : List PyData)
  | dct (kvs : List (List Bool × PyData))
  | fdc (kvs : List (List Bool × PyData))
abbrev KOk (G : Hp) : List (List Bool × PyData) → List (List Bool × Addr × V) → Prop :=
  Paired fun kv x => kv.1 = x.1 ∧ G x.2.1 = some (.tup (kv.1.map V.bl)) ∧ Dd G x.2.2 kv.2
theorem kok_ex {G G' : Hp} (e : Ex G G') {kvs : List (List Bool × PyData)} {xs : List (List Bool × Addr × V)} (h : KOk G kvs xs) : KOk G' kvs xs :=
  Paired.mapP h fun _ _ z => ⟨z.1, e _ _ z.2.1, dd_ex e z.2.2⟩
def SlOk (W : Pw) (G H H0 : Hp) : Sl → Option V → Prop
  | .no, _ => True
  | .val d, o => ∃ v, o = some v ∧ Dd G v d
  | .own ds, o => ∃ l vs, o = some (.ref l) ∧ G l = none ∧ H0 l = none ∧ H l = some (.lst vs) ∧ DdAll G vs ds
  | .oat l ds, o => ∃ vs, o = some (.ref l) ∧ G l = none ∧ H0 l = none ∧ H l = some (.lst vs) ∧ DdAll G vs ds
  | .dct kvs, o => ∃ l xs, o = some (.ref l) ∧ G l = none ∧ H0 l = none ∧ H l = some (DB W.P W.w l xs) ∧ KOk G kvs xs
  | .fdc kvs, o => ∃ l xs od, o = some (.ref l) ∧ G l = some (.frz od (DB W.P W.w l xs)) ∧ KOk G kvs xs
def Sl.mu : Sl → Bool
  | .own _ => true
  | .oat _ _ => true
  | .dct _ => true
  | _ => false
/-- the entry: what was frozen (g), tracked (h) there; what is surely frozen now (m) -/
structure Bs where
  g : Hp
  h : Hp
  m : Hp
/-- the names' values σ are the slots δ -/
structure RS (W : Pw) (B : Bs) (δ : List Sl) (σ : L2.St) (G H : Hp) : Prop where
  tab : TabOk W.K W.mg W.base B.h
  gr : Gr B.g B.h G H
  low : Ex B.m G
  len : σ.length = δ.length
  sl : ∀ (i : Nat) (x : Sl) (o : Option V), δ[i]? = some x → σ[i]? = some o → SlOk W G H B.h x o
  ap : ∀ (i j : Nat) (x y : Sl) (a : Addr), i ≠ j → δ[i]? = some x → δ[j]? = some y → x.mu = true → y.mu = true → σ[i]? = some (some (.ref a)) → σ[j]? = some (some (.ref a)) → False
theorem SlOk.gr {W : Pw} {G H G' H' H0 : Hp} {x : Sl} {o : Option V} (g : Gr G H G' H') (h : SlOk W G H H0 x o) : SlOk W G' H' H0 x o := by
  cases x with
  | no => trivial
  | val d => obtain ⟨v, e, r⟩ := h; exact ⟨v, e, dd_ex g.gg r⟩
  | own ds =>
    obtain ⟨l, vs, e, h1, h2, h3, r⟩ := h
    exact ⟨l, vs, e, g.ap l (by rw [h3]; simp) h1, h2, g.hh _ _ h3, dda_ex g.gg r⟩
  | oat l ds =>
    obtain ⟨vs, e, h1, h2, h3, r⟩ := h
    exact ⟨vs, e, g.ap l (by rw [h3]; simp) h1, h2, g.hh _ _ h3, dda_ex g.gg r⟩
  | dct kvs =>
    obtain ⟨l, xs, e, h1, h2, h3, r⟩ := h
    exact ⟨l, xs, e, g.ap l (by rw [h3]; simp) h1, h2, g.hh _ _ h3, kok_ex g.gg r⟩
  | fdc kvs =>
    obtain ⟨l, xs, od, e, h1, r⟩ := h
    exact ⟨l, xs, od, e, g.gg _ _ h1, kok_ex g.gg r⟩
section
variable {W : Pw} {B : Bs} {δ : List Sl} {σ : L2.St} {G H : Hp}
theorem RS.grow {G' H' : Hp} (r : RS W B δ σ G H) (g : Gr G H G' H') : RS W B δ σ G' H' :=
  ⟨r.tab, r.gr.trans g, r.low.trans g.gg, r.len, fun i x o e1 e2 => (r.sl i x o e1 e2).gr g, r.ap⟩
theorem RS.ex (r : RS W B δ σ G H) : Ex G H := r.gr.gh
theorem RS.lower {m : Hp} (r : RS W B δ σ G H) (h : Ex m G) : RS W ⟨B.g, B.h, m⟩ δ σ G H := ⟨r.tab, r.gr, h, r.len, r.sl, r.ap⟩
theorem RS.get {i : Nat} {x : Sl} (r : RS W B δ σ G H) (h : δ[i]? = some x) : ∃ o, σ[i]? = some o ∧ SlOk W G H B.h x o := by
  have hi : i < δ.length := (List.getElem?_eq_some_iff.mp h).1
  have hs : i < σ.length := by rw [r.len]; exact hi
  exact ⟨σ[i], List.getElem?_eq_getElem hs, r.sl i x _ h (List.getElem?_eq_getElem hs)⟩
/-- slot i is told anew, as what its value is; the frozen heap may grow by what the slot held alone -/
theorem RS.put {i : Nat} {x : Sl} {o : Option V} {G' H' : Hp} (r : RS W B δ σ G H) (g : Gr B.g B.h G' H') (hg : Ex G G')
    (keep : ∀ j y, j ≠ i → δ[j]? = some y → ∀ p, σ[j]? = some p → SlOk W G H B.h y p → SlOk W G' H' B.h y p) (h : SlOk W G' H' B.h x o)
    (hap : x.mu = true → ∀ j y a, j ≠ i → δ[j]? = some y → y.mu = true → o = some (.ref a) → σ[j]? = some (some (.ref a)) → False) : RS W B (δ.set i x) (σ.set i o) G' H' := by
  refine ⟨r.tab, g, r.low.trans hg, by rw [List.length_set, List.length_set]; exact r.len, fun j y p e1 e2 => ?_, fun j k y z a hjk e1 e2 m1 m2 s1 s2 => ?_⟩
  · by_cases hj : i = j
    · subst hj
      have h1 : i < σ.length := by
        have := (List.getElem?_eq_some_iff.mp e2).1
        rwa [List.length_set] at this
      rw [List.getElem?_set_self (by rw [← r.len]; exact h1)] at e1
      rw [List.getElem?_set_self h1] at e2
      cases e1; cases e2
      exact h
    · rw [List.getElem?_set_ne hj] at e1 e2
      exact keep j y (Ne.symm hj) e1 p e2 (r.sl j y p e1 e2)
  · have self : ∀ {j : Nat} {y : Sl}, (δ.set i x)[j]? = some y → i = j → y = x := fun {j y} e q => by
      subst q
      have h1 : i < δ.length := by
        have := (List.getElem?_eq_some_iff.mp e).1
        rwa [List.length_set] at this
      rw [List.getElem?_set_self h1] at e
      exact (Option.some.inj e).symm
    have selfV : ∀ {j : Nat} {p : Option V}, (σ.set i o)[j]? = some p → i = j → p = o := fun {j p} e q => by
      subst q
      have h1 : i < σ.length := by
        have := (List.getElem?_eq_some_iff.mp e).1
        rwa [List.length_set] at this
      rw [List.getElem?_set_self h1] at e
      exact (Option.some.inj e).symm
    by_cases hj : i = j
    · have hk : i ≠ k := fun z => hjk (hj.symm.trans z)
      rw [List.getElem?_set_ne hk] at e2 s2
      have e := self e1 hj
      subst e
      exact hap m1 k z a (Ne.symm hk) e2 m2 (selfV s1 hj).symm s2
    · rw [List.getElem?_set_ne hj] at e1 s1
      by_cases hk : i = k
      · have e := self e2 hk
        subst e
        exact hap m2 j y a (Ne.symm hj) e1 m1 (selfV s2 hk).symm s1
      · rw [List.getElem?_set_ne hk] at e2 s2
        exact r.ap j k y z a hjk e1 e2 m1 m2 s1 s2
/-- a value is stored -/
theorem RS.set {i : Nat} {v : V} {d : PyData} (r : RS W B δ σ G H) (h : Dd G v d) : RS W B (δ.set i (.val d)) (σ.set i (some v)) G H :=
  r.put r.gr (Ex.refl _) (fun _ _ _ _ _ _ q => q) ⟨v, rfl, h⟩ (fun m => by cases m)
/-- slots forgotten -/
theorem RS.forget {δ' : List Sl} {σ' : L2.St} (r : RS W B δ σ G H) (hl : σ'.length = δ'.length) (h : ∀ (i : Nat) (x : Sl) (o : Option V), δ'[i]? = some x → σ'[i]? = some o → x = .no ∨ (δ[i]? = some x ∧ σ[i]? = some o)) : RS W B δ' σ' G H := by
  refine ⟨r.tab, r.gr, r.low, hl, fun i x o e1 e2 => ?_, fun i j x y a hij e1 e2 m1 m2 s1 s2 => ?_⟩
  · rcases h i x o e1 e2 with z | ⟨z1, z2⟩
    · subst z; trivial
    · exact r.sl i x o z1 z2
  · rcases h i x _ e1 s1 with z | ⟨z1, z2⟩
    · subst z; cases m1
    · rcases h j y _ e2 s2 with z | ⟨z3, z4⟩
      · subst z; cases m2
      · exact r.ap i j x y a hij z1 z3 m1 m2 z2 z4
end

/-! ### judgements -/
/-- whatever an expression does, as a reading -/
def rd (X : Cx) (e : Expr) : TE := fun σ H Q => ∀ (pins : List (Addr × Obj)) (s : Shared), Inv X pins σ H s → wpAny (model X.prog X.w) X.A (eval e X.env) (EP X pins σ Q) X.xe s
theorem pe_rd {X : Cx} {e : Expr} : PE X e (rd X e) := ⟨fun pins s _ _ _ I h => h pins s I⟩
def rdT (X : Cx) (e : Expr) : TT := fun σ H Q => ∀ (pins : List (Addr × Obj)) (s : Shared), Inv X pins σ H s → wpAny (model X.prog X.w) X.A (isTrue e X.env (eval e X.env)) (TP X pins σ Q) X.xe s
theorem pt_rd {X : Cx} {e : Expr} : PT X e (rdT X e) := ⟨fun pins s _ _ _ I h => h pins s I⟩
def rdA (X : Cx) (es : List Expr) : TA := fun σ H Q => ∀ (pos : Pos) (pins : List (Addr × Obj)) (s : Shared), Inv X pins σ H s → wpAny (model X.prog X.w) X.A (spliced (backTo pos (starEach es X.env))) (AP X pins σ Q) X.xe s
theorem pa_rd {X : Cx} {es : List Expr} : PA X es (rdA X es) := ⟨fun pos pins s _ _ _ I h => h pos pins s I⟩
def rdS (X : Cx) (st : List Stmt) : TS := fun D σ H => ∀ (pins : List (Addr × Obj)) (s : Shared), Inv X pins σ H s → wpAny (model X.prog X.w) X.A (execs st X.env) (SP X pins D) X.xe s
theorem pss_rd {X : Cx} {st : List Stmt} : PSs X st (rdS X st) := ⟨fun pins s _ _ _ I h => h pins s I⟩

/-- an expression gives the data d -/
def RD (W : Pw) (δ : List Sl) (t : TE) (d : PyData) : Prop := ∀ (B : Bs) (σ : L2.St) (G H : Hp) (Q : VK), RS W B δ σ G H → (∀ v G' H', Gr G H G' H' → Dd G' v d → Q v H') → t σ H Q
def RDT (W : Pw) (δ : List Sl) (t : TT) (b : Bool) : Prop := ∀ (B : Bs) (σ : L2.St) (G H : Hp) (Q : Bool → Hp → Prop), RS W B δ σ G H → (∀ G' H', Gr G H G' H' → Q b H') → t σ H Q
def RDA (W : Pw) (δ : List Sl) (t : TA) (ds : List PyData) : Prop := ∀ (B : Bs) (σ : L2.St) (G H : Hp) (Q : List V → Hp → Prop), RS W B δ σ G H → (∀ vs G' H', Gr G H G' H' → DdAll G' vs ds → Q vs H') → t σ H Q
/-- an expression gives a new list that nobody else holds -/
def RDL (W : Pw) (δ : List Sl) (t : TE) (ds : List PyData) : Prop := ∀ (B : Bs) (σ : L2.St) (G H : Hp) (Q : VK), RS W B δ σ G H →
  (∀ l vs G' H', Gr G H G' H' → H l = none → G' l = none → H' l = some (.lst vs) → DdAll G' vs ds → Q (.ref l) H') → t σ H Q
def ED (X : Cx) (δ : List Sl) (e : Expr) (d : PyData) : Prop := RD (pw X) δ (rd X e) d
def TD (X : Cx) (δ : List Sl) (e : Expr) (b : Bool) : Prop := RDT (pw X) δ (rdT X e) b
def AD (X : Cx) (δ : List Sl) (es : List Expr) (ds : List PyData) : Prop := RDA (pw X) δ (rdA X es) ds
def LD (X : Cx) (δ : List Sl) (e : Expr) (ds : List PyData) : Prop := RDL (pw X) δ (rd X e) ds
theorem ED.of {X : Cx} {δ : List Sl} {e : Expr} {d : PyData} {t : TE} (h : PE X e t) (r : RD (pw X) δ t d) : ED X δ e d :=
  fun B σ G H Q rs k pins s I => h.run pins s σ H Q I (r B σ G H Q rs k)
theorem TD.of {X : Cx} {δ : List Sl} {e : Expr} {b : Bool} {t : TT} (h : PT X e t) (r : RDT (pw X) δ t b) : TD X δ e b :=
  fun B σ G H Q rs k pins s I => h.run pins s σ H Q I (r B σ G H Q rs k)
theorem AD.of {X : Cx} {δ : List Sl} {es : List Expr} {ds : List PyData} {t : TA} (h : PA X es t) (r : RDA (pw X) δ t ds) : AD X δ es ds :=
  fun B σ G H Q rs k pos pins s I => h.run pos pins s σ H Q I (r B σ G H Q rs k)
theorem LD.of {X : Cx} {δ : List Sl} {e : Expr} {ds : List PyData} {t : TE} (h : PE X e t) (r : RDL (pw X) δ t ds) : LD X δ e ds :=
  fun B σ G H Q rs k pins s I => h.run pins s σ H Q I (r B σ G H Q rs k)
/-- a new list is data -/
theorem RDL.rd {W : Pw} {δ : List Sl} {t : TE} {ds : List PyData} (h : RDL W δ t ds) : RD W δ t (.list ds) := fun B σ G H Q rs k => h B σ G H Q rs fun l vs G' H' g f1 f2 f3 r => by
  refine k (.ref l) (upd G' l (.lst vs)) H' ⟨g.gg.trans (Ex.new f2), g.hh, fun a u q => ?_, fun b h1 h2 => ?_, g.tb⟩ (.lst upd_same (dda_ex (Ex.new f2) r))
  · by_cases ha : a = l
    · subst ha; rw [upd_same] at q; cases q; exact f3
    · rw [upd_ne ha] at q; exact g.gh a u q
  · have hb : b ≠ l := fun z => h1 (by rw [z]; exact f1)
    rw [upd_ne hb]
    exact g.ap b h1 h2
theorem LD.ed {X : Cx} {δ : List Sl} {e : Expr} {ds : List PyData} (h : LD X δ e ds) : ED X δ e (.list ds) := RDL.rd h

/-! ### statements -/
/-- what is wanted behind a statement, over slots -/
structure En where
  nx : List Sl → Prop
  rt : List Sl → PyData → Prop
  bk : List Sl → Prop := fun _ => False
  ct : List Sl → Prop := fun _ => False
structure Fol (W : Pw) (B : Bs) (D : Ends) (E : En) : Prop where
  nx : ∀ δ σ G H, E.nx δ → RS W B δ σ G H → D.nx σ H
  rt : ∀ δ d v σ G H, E.rt δ d → RS W B δ σ G H → Dd G v d → D.rt v H
  bk : ∀ δ σ G H, E.bk δ → RS W B δ σ G H → D.bk σ H
  ct : ∀ δ σ G H, E.ct δ → RS W B δ σ G H → D.ct σ H
def SR (W : Pw) (δ : List Sl) (t : TS) (E : En) : Prop := ∀ (B : Bs) (σ : L2.St) (G H : Hp) (D : Ends), RS W B δ σ G H → Fol W B D E → t D σ H
def SD (X : Cx) (δ : List Sl) (st : List Stmt) (E : En) : Prop := SR (pw X) δ (rdS X st) E
theorem SD.of {X : Cx} {δ : List Sl} {st : List Stmt} {E : En} {t : TS} (h : PSs X st t) (r : SR (pw X) δ t E) : SD X δ st E :=
  fun B σ G H D rs f pins s I => h.run pins s σ H D I (r B σ G H D rs f)
end C9
set_option Elab.async false
set_option linter.all false
set_option maxRecDepth 100000
set_option maxHeartbeats 1000000
namespace C9
open PySem PySem.Spec PyProof.Rows L2

section
variable {X : Cx} {δ : List Sl} {e a b : Expr} {pos : Pos}
theorem RD.mk {W : Pw} {t : TE} {d : PyData} (h : ∀ (B : Bs) (σ : L2.St) (G H : Hp) (Q : VK), RS W B δ σ G H → (∀ v G' H', Gr G H G' H' → Dd G' v d → Q v H') → t σ H Q) : RD W δ t d := h

/-! ### names, constants -/
theorem ed_var {x : Str} {d : PyData} {i : Nat} (hd : δ[i]? = some (.val d)) (hN : X.N[i]? = some x := by rfl) (hv : Vis X.env.scope x := by first | exact Or.inl rfl | exact Or.inr (Or.inl rfl) | exact Or.inr (Or.inr rfl))
    (h1 : (x == ("__debug__" : Str)) = false := by decide) (h2 : (x == ("__classdict__" : Str)) = false := by decide) : ED X δ (.Name x pos) d :=
  ED.of (pe_var hN hv h1 h2) fun B σ G H Q rs k => by
    obtain ⟨o, e, v, rfl, r⟩ := rs.get hd
    exact ⟨v, e, k v G H (Gr.refl rs.ex) r⟩
theorem ed_int {i : Int} {j} : ED X δ (.Constant (.int i) j pos) (.int i) := ED.of pe_int fun B σ G H Q rs k => k _ G H (Gr.refl rs.ex) (.int i)
theorem ed_bl {i : Bool} {j} : ED X δ (.Constant (.bool i) j pos) (.bool i) := ED.of pe_bl fun B σ G H Q rs k => k _ G H (Gr.refl rs.ex) (.bl i)
theorem ed_non {j} : ED X δ (.Constant .none j pos) .none := ED.of pe_non fun B σ G H Q rs k => k _ G H (Gr.refl rs.ex) .non
theorem ed_str {x : Str} {j} : ED X δ (.Constant (.str x) j pos) (.str x) := ED.of pe_str fun B σ G H Q rs k => k _ G H (Gr.refl rs.ex) (.str x)
theorem ED.to {d d' : PyData} (h : ED X δ e d) (eq : d = d') : ED X δ e d' := by rw [← eq]; exact h

/-! ### operators -/
theorem ed_op2 {op : Operator} {r : R2} {x y z : PyData} (ho : OpR X (binaryOp op) r) (ha : ED X δ a x) (hb : ED X δ b y)
    (hr : ∀ (G H : Hp) (v u : V) (Q : VK), Ex G H → Dd G v x → Dd G u y → (∀ w G' H', Gr G H G' H' → Dd G' w z → Q w H') → r v u H Q) : ED X δ (.BinOp a op b pos) z :=
  ED.of (pe_op ho pe_rd pe_rd) fun B σ G H Q rs k => ha B σ G H _ rs fun v G1 H1 g1 d1 => hb B σ G1 H1 _ (rs.grow g1) fun u G2 H2 g2 d2 =>
    hr G2 H2 v u Q g2.gh (dd_ex g2.gg d1) d2 fun w G3 H3 g3 d3 => k w G3 H3 ((g1.trans g2).trans g3) d3
theorem ed_I0 {op : Operator} {g : Int → Int → Int} {i j : Int} (ho : OpR X (binaryOp op) (rI0 fun i j => .int (g i j))) (ha : ED X δ a (.int i)) (hb : ED X δ b (.int j)) : ED X δ (.BinOp a op b pos) (.int (g i j)) :=
  ed_op2 ho ha hb fun G H v u Q e d1 d2 k => by
    cases d1; cases d2
    exact ⟨i, j, rfl, rfl, k _ G H (Gr.refl e) (.int _)⟩
theorem ed_I {op : Operator} {C : Int → Int → Prop} {g : Int → Int → Int} {i j : Int} (ho : OpR X (binaryOp op) (rI C fun i j => .int (g i j))) (hc : C i j) (ha : ED X δ a (.int i)) (hb : ED X δ b (.int j)) : ED X δ (.BinOp a op b pos) (.int (g i j)) :=
  ed_op2 ho ha hb fun G H v u Q e d1 d2 k => by
    cases d1; cases d2
    exact ⟨i, j, rfl, rfl, hc, k _ G H (Gr.refl e) (.int _)⟩
theorem ed_add {i j : Int} (ha : ED X δ a (.int i)) (hb : ED X δ b (.int j)) : ED X δ (.BinOp a .Add b pos) (.int (i + j)) := ed_I0 op_add ha hb
theorem ed_sub {i j : Int} (ha : ED X δ a (.int i)) (hb : ED X δ b (.int j)) : ED X δ (.BinOp a .Sub b pos) (.int (i - j)) := ed_I0 op_sub ha hb
theorem ed_mul {i j : Int} (hc : CMul i j) (ha : ED X δ a (.int i)) (hb : ED X δ b (.int j)) : ED X δ (.BinOp a .Mult b pos) (.int (i * j)) := ed_I (g := fun i j => i * j) op_mul hc ha hb
theorem ed_shl {i j : Int} (hc : CPow i j) (ha : ED X δ a (.int i)) (hb : ED X δ b (.int j)) : ED X δ (.BinOp a .LShift b pos) (.int (i * 2 ^ j.toNat)) := ed_I (g := fun i j => i * 2 ^ j.toNat) op_shl hc ha hb
theorem ed_shr {i j : Int} (hc : 0 ≤ j) (ha : ED X δ a (.int i)) (hb : ED X δ b (.int j)) : ED X δ (.BinOp a .RShift b pos) (.int (i / 2 ^ j.toNat)) := ed_I (g := fun i j => i / 2 ^ j.toNat) (C := fun _ j => 0 ≤ j) op_shr hc ha hb
theorem ed_bitand {i j : Int} (ha : ED X δ a (.int i)) (hb : ED X δ b (.int j)) : ED X δ (.BinOp a .BitAnd b pos) (.int (Builtin.bitAnd i j)) := ed_I0 op_and ha hb
/-- t + u, tuples -/
theorem ed_catT {xs ys : List PyData} (ha : ED X δ a (.tuple xs)) (hb : ED X δ b (.tuple ys)) (hz : xs.length + ys.length ≤ 100000) : ED X δ (.BinOp a .Add b pos) (.tuple (xs ++ ys)) :=
  ed_op2 op_catA ha hb fun G H v u Q e d1 d2 k => by
    cases d1 with
    | @tup p vs _ h1 r1 =>
    cases d2 with
    | @tup q us _ h2 r2 =>
    have l1 := dda_len r1
    have l2 := dda_len r2
    refine ⟨p, q, vs, us, rfl, rfl, .inl (.inl (e _ _ h1)), .inl (.inl (e _ _ h2)), Nat.le_trans (by omega : vs.length + us.length ≤ 100000) (by decide), fun z => ?_, fun _ z => ?_, fun _ _ t ht => ?_⟩
    · subst z
      cases r1
      exact k _ G H (Gr.refl e) (.tup h2 r2)
    · subst z
      cases r2
      rw [List.append_nil] at k
      exact k _ G H (Gr.refl e) (.tup h1 r1)
    · have g := Gr.new (o := .tup (vs ++ us)) e ht
      exact k _ _ _ g (.tup upd_same (dda_ex g.gg (dda_app r1 r2)))
/-- xs + ys, lists -/
theorem ed_catL {xs ys : List PyData} (ha : ED X δ a (.list xs)) (hb : ED X δ b (.list ys)) (hz : xs.length + ys.length ≤ 100000) : ED X δ (.BinOp a .Add b pos) (.list (xs ++ ys)) :=
  ed_op2 op_cat ha hb fun G H v u Q e d1 d2 k => by
    cases d1 with
    | @lst p vs _ h1 r1 =>
    cases d2 with
    | @lst q us _ h2 r2 =>
    have l1 := dda_len r1
    have l2 := dda_len r2
    refine ⟨p, q, vs, us, rfl, rfl, e _ _ h1, e _ _ h2, Nat.le_trans (by omega : vs.length + us.length ≤ 100000) (by decide), fun t ht => ?_⟩
    have g := Gr.new (o := .lst (vs ++ us)) e ht
    exact k _ _ _ g (.lst upd_same (dda_ex g.gg (dda_app r1 r2)))

/-! ### comparisons -/
/-- a comparison of two values gives z -/
def CD (X : Cx) (δ : List Sl) (op : CmpOp) (a b : Expr) (z : PyData) : Prop :=
  ∃ (r : R2) (x y : PyData), OpR X (compareOp op) r ∧ behindInMarks op b = false ∧ ED X δ a x ∧ ED X δ b y ∧
    ∀ (G H : Hp) (v u : V) (Q : VK), Ex G H → Dd G v x → Dd G u y → (∀ w G' H', Gr G H G' H' → Dd G' w z → Q w H') → r v u H Q
theorem CD.ed {op : CmpOp} {z : PyData} (h : CD X δ op a b z) : ED X δ (.Compare a [op] [b] pos) z := by
  obtain ⟨r, x, y, ho, hm, ha, hb, hr⟩ := h
  exact ED.of (pe_cmpR ho pe_rd pe_rd hm) fun B σ G H Q rs k => ha B σ G H _ rs fun v G1 H1 g1 d1 => hb B σ G1 H1 _ (rs.grow g1) fun u G2 H2 g2 d2 =>
    hr G2 H2 v u Q g2.gh (dd_ex g2.gg d1) d2 fun w G3 H3 g3 d3 => k w G3 H3 ((g1.trans g2).trans g3) d3
theorem CD.td {op : CmpOp} {p : Bool} (h : CD X δ op a b (.bool p)) : TD X δ (.Compare a [op] [b] pos) p := by
  obtain ⟨r, x, y, ho, hm, ha, hb, hr⟩ := h
  exact TD.of (pt_cmpR ho pe_rd pe_rd hm) fun B σ G H Q rs k => ha B σ G H _ rs fun v G1 H1 g1 d1 => hb B σ G1 H1 _ (rs.grow g1) fun u G2 H2 g2 d2 =>
    hr G2 H2 v u _ g2.gh (dd_ex g2.gg d1) d2 fun w G3 H3 g3 d3 => by
      cases d3
      exact ⟨p, rfl, k G3 H3 ((g1.trans g2).trans g3)⟩
theorem CD.to {op : CmpOp} {x y : PyData} (h : CD X δ op a b x) (e : x = y) : CD X δ op a b y := by rw [← e]; exact h
theorem cd_mk {op : CmpOp} {r : R2} {x y z : PyData} (ho : OpR X (compareOp op) r) (hm : behindInMarks op b = false) (ha : ED X δ a x) (hb : ED X δ b y)
    (hr : ∀ (G H : Hp) (v u : V) (Q : VK), Ex G H → Dd G v x → Dd G u y → (∀ w G' H', Gr G H G' H' → Dd G' w z → Q w H') → r v u H Q) : CD X δ op a b z := ⟨r, x, y, ho, hm, ha, hb, hr⟩
theorem cd_cI {op : CmpOp} {g : Int → Int → Bool} {i j : Int} (ho : OpR X (compareOp op) (rI0 fun i j => .bl (g i j))) (hm : behindInMarks op b = false) (ha : ED X δ a (.int i)) (hb : ED X δ b (.int j)) : CD X δ op a b (.bool (g i j)) :=
  cd_mk ho hm ha hb fun G H v u Q e d1 d2 k => by
    cases d1; cases d2
    exact ⟨i, j, rfl, rfl, k _ G H (Gr.refl e) (.bl _)⟩
theorem cd_lt {i j : Int} (ha : ED X δ a (.int i)) (hb : ED X δ b (.int j)) : CD X δ .Lt a b (.bool (decide (i < j))) := cd_cI op_lt (nomark _) ha hb
theorem cd_le {i j : Int} (ha : ED X δ a (.int i)) (hb : ED X δ b (.int j)) : CD X δ .LtE a b (.bool (decide (i ≤ j))) := cd_cI op_le (nomark _) ha hb
theorem cd_gt {i j : Int} (ha : ED X δ a (.int i)) (hb : ED X δ b (.int j)) : CD X δ .Gt a b (.bool (decide (j < i))) := cd_cI op_gt (nomark _) ha hb
theorem cd_ge {i j : Int} (ha : ED X δ a (.int i)) (hb : ED X δ b (.int j)) : CD X δ .GtE a b (.bool (decide (j ≤ i))) := cd_cI op_ge (nomark _) ha hb
/-- == and != of scalars -/
def flat : PyData → V
  | .bool b => .bl b
  | .int i => .int i
  | .str x => .str x
  | _ => .non
def isFlat : PyData → Bool
  | .none => true
  | .bool _ => true
  | .int _ => true
  | .str _ => true
  | _ => false
theorem dd_flat {G : Hp} {v : V} {d : PyData} (h : Dd G v d) (hf : isFlat d = true) : v = flat d := by
  cases h with
  | lst => cases hf
  | tup => cases hf
  | _ => rfl
theorem cd_eqS {x y : PyData} (hx : isFlat x = true) (hy : isFlat y = true) (hs : scal (flat x) (flat y) = true) (ha : ED X δ a x) (hb : ED X δ b y) : CD X δ .Eq a b (.bool (decide (flat x = flat y))) :=
  cd_mk op_eq (nomark _) ha hb fun G H v u Q e d1 d2 k => by
    rw [dd_flat d1 hx, dd_flat d2 hy]
    exact ⟨hs, k _ G H (Gr.refl e) (.bl _)⟩
theorem cd_neS {x y : PyData} (hx : isFlat x = true) (hy : isFlat y = true) (hs : scal (flat x) (flat y) = true) (ha : ED X δ a x) (hb : ED X δ b y) : CD X δ .NotEq a b (.bool (!decide (flat x = flat y))) :=
  cd_mk op_ne (nomark _) ha hb fun G H v u Q e d1 d2 k => by
    rw [dd_flat d1 hx, dd_flat d2 hy]
    exact ⟨hs, k _ G H (Gr.refl e) (.bl _)⟩
theorem dec_ii {i j : Int} : decide (flat (.int i) = flat (.int j)) = decide (i = j) := by
  show decide (V.int i = V.int j) = _
  simp
theorem dec_bb {i j : Bool} : decide (flat (.bool i) = flat (.bool j)) = decide (i = j) := by
  show decide (V.bl i = V.bl j) = _
  simp
theorem cd_eqI {i j : Int} (ha : ED X δ a (.int i)) (hb : ED X δ b (.int j)) : CD X δ .Eq a b (.bool (decide (i = j))) := by
  rw [← dec_ii]
  exact cd_eqS rfl rfl rfl ha hb
theorem cd_neI {i j : Int} (ha : ED X δ a (.int i)) (hb : ED X δ b (.int j)) : CD X δ .NotEq a b (.bool (!decide (i = j))) := by
  rw [← dec_ii]
  exact cd_neS rfl rfl rfl ha hb
theorem cd_eqB {i j : Bool} (ha : ED X δ a (.bool i)) (hb : ED X δ b (.bool j)) : CD X δ .Eq a b (.bool (decide (i = j))) := by
  rw [← dec_bb]
  exact cd_eqS rfl rfl rfl ha hb
/-- == and != of data at any depth -/
theorem cd_eqD {x y : PyData} (hu : X.A.units + 64 < cLine) (hx : SeqAt.shaped x = true) (hy : SeqAt.shaped y = true) (ha : ED X δ a x) (hb : ED X δ b y) : CD X δ .Eq a b (.bool (PyData.eqv x y)) :=
  cd_mk (op_eqD hu) (nomark _) ha hb fun G H v u Q e d1 d2 k => ⟨x, y, (dd_ex e d1).dp, (dd_ex e d2).dp, hx, hy, k _ G H (Gr.refl e) (.bl _)⟩
theorem cd_neD {x y : PyData} (hu : X.A.units + 64 < cLine) (hx : SeqAt.shaped x = true) (hy : SeqAt.shaped y = true) (ha : ED X δ a x) (hb : ED X δ b y) : CD X δ .NotEq a b (.bool (!PyData.eqv x y)) :=
  cd_mk (op_neD hu) (nomark _) ha hb fun G H v u Q e d1 d2 k => ⟨x, y, (dd_ex e d1).dp, (dd_ex e d2).dp, hx, hy, k _ G H (Gr.refl e) (.bl _)⟩
/-- is None, is not None -/
def isNone : PyData → Bool
  | .none => true
  | _ => false
theorem dd_none {G : Hp} {v : V} {d : PyData} (h : Dd G v d) : decide (v = .non) = isNone d := by
  cases h <;> rfl
theorem cd_isN {x : PyData} {j pos'} (ha : ED X δ a x) : CD X δ .Is a (.Constant .none j pos') (.bool (isNone x)) :=
  cd_mk op_isN (nomark _) ha ed_non fun G H v u Q e d1 d2 k => by
    cases d2
    refine ⟨rfl, ?_⟩
    rw [dd_none d1]
    exact k _ G H (Gr.refl e) (.bl _)
theorem cd_notN {x : PyData} {j pos'} (ha : ED X δ a x) : CD X δ .IsNot a (.Constant .none j pos') (.bool (!isNone x)) :=
  cd_mk op_notN (nomark _) ha ed_non fun G H v u Q e d1 d2 k => by
    cases d2
    refine ⟨rfl, ?_⟩
    rw [dd_none d1]
    exact k _ G H (Gr.refl e) (.bl _)
theorem cd_isB {i j : Bool} (ha : ED X δ a (.bool i)) (hb : ED X δ b (.bool j)) : CD X δ .Is a b (.bool (decide (i = j))) :=
  cd_mk op_isBl (nomark _) ha hb fun G H v u Q e d1 d2 k => by
    cases d1; cases d2
    exact ⟨i, j, rfl, rfl, k _ G H (Gr.refl e) (.bl _)⟩
theorem cd_notB {i j : Bool} (ha : ED X δ a (.bool i)) (hb : ED X δ b (.bool j)) : CD X δ .IsNot a b (.bool (!decide (i = j))) :=
  cd_mk op_notBl (nomark _) ha hb fun G H v u Q e d1 d2 k => by
    cases d1; cases d2
    exact ⟨i, j, rfl, rfl, k _ G H (Gr.refl e) (.bl _)⟩
/-- x in xs, of flat items -/
theorem dda_flat {G : Hp} : ∀ {vs : List V} {ds : List PyData}, DdAll G vs ds → ds.all isFlat = true → vs = ds.map flat
  | _, _, .nil, _ => rfl
  | _, _, .cons h r, hf => by
    rw [List.all_cons, Bool.and_eq_true] at hf
    rw [dd_flat h hf.1, dda_flat r hf.2]
    rfl
theorem flatV_flat {d : PyData} (h : isFlat d = true) : flatV (flat d) = true := by
  cases d <;> first | rfl | cases h
theorem flatV_all : ∀ {ds : List PyData}, ds.all isFlat = true → (ds.map flat).all flatV = true
  | [], _ => rfl
  | d :: ds, h => by
    rw [List.all_cons, Bool.and_eq_true] at h
    rw [List.map_cons, List.all_cons, flatV_flat h.1, flatV_all h.2]
    rfl
theorem cd_in {x : PyData} {ds : List PyData} {y : PyData} (hy : y = .list ds ∨ y = .tuple ds) (hx : isFlat x = true) (hf : ds.all isFlat = true) (hm : behindInMarks .In b = false) (ha : ED X δ a x) (hb : ED X δ b y) :
    CD X δ .In a b (.bool (inV (flat x) (ds.map flat))) :=
  cd_mk op_in_seq hm ha hb fun G H v u Q e d1 d2 k => by
    rw [dd_flat d1 hx]
    rcases hy with rfl | rfl
    · cases d2 with
      | @lst p us _ h2 r2 =>
      have q := dda_flat r2 hf
      subst q
      exact ⟨p, _, rfl, .inl (.inl (.inl (e _ _ h2))), flatV_flat hx, flatV_all hf, k _ G H (Gr.refl e) (.bl _)⟩
    · cases d2 with
      | @tup p us _ h2 r2 =>
      have q := dda_flat r2 hf
      subst q
      exact ⟨p, _, rfl, .inr (.inl (.inl (e _ _ h2))), flatV_flat hx, flatV_all hf, k _ G H (Gr.refl e) (.bl _)⟩
theorem cd_notIn {x : PyData} {ds : List PyData} {y : PyData} (hy : y = .list ds ∨ y = .tuple ds) (hx : isFlat x = true) (hf : ds.all isFlat = true) (hm : behindInMarks .NotIn b = false) (ha : ED X δ a x) (hb : ED X δ b y) :
    CD X δ .NotIn a b (.bool (!inV (flat x) (ds.map flat))) :=
  cd_mk op_notIn_seq hm ha hb fun G H v u Q e d1 d2 k => by
    rw [dd_flat d1 hx]
    rcases hy with rfl | rfl
    · cases d2 with
      | @lst p us _ h2 r2 =>
      have q := dda_flat r2 hf
      subst q
      exact ⟨p, _, rfl, .inl (.inl (.inl (e _ _ h2))), flatV_flat hx, flatV_all hf, k _ G H (Gr.refl e) (.bl _)⟩
    · cases d2 with
      | @tup p us _ h2 r2 =>
      have q := dda_flat r2 hf
      subst q
      exact ⟨p, _, rfl, .inr (.inl (.inl (e _ _ h2))), flatV_flat hx, flatV_all hf, k _ G H (Gr.refl e) (.bl _)⟩
/-- a < b <= c .. -/
theorem ed_chain {op op' : CmpOp} {r r' : R2} {c : Expr} {x y z : PyData} {p q : Bool} (ho : OpR X (compareOp op) r) (ho' : OpR X (compareOp op') r') (ha : ED X δ a x) (hb : ED X δ b y) (hc : ED X δ c z)
    (hr : ∀ (G H : Hp) (v u : V) (Q : VK), Ex G H → Dd G v x → Dd G u y → Q (.bl p) H → r v u H Q) (hr' : p = true → ∀ (G H : Hp) (v u : V) (Q : VK), Ex G H → Dd G v y → Dd G u z → Q (.bl q) H → r' v u H Q)
    (hm : lastMarks [op, op'] [b, c] = false := by with_unfolding_all rfl) : ED X δ (.Compare a [op, op'] [b, c] pos) (.bool (p && q)) :=
  ED.of (pe_chain ho ho' pe_rd pe_rd pe_rd hm) fun B σ G H Q rs k => ha B σ G H _ rs fun v G1 H1 g1 d1 => hb B σ G1 H1 _ (rs.grow g1) fun u G2 H2 g2 d2 =>
    hr G2 H2 v u _ g2.gh (dd_ex g2.gg d1) d2 ⟨p, rfl, by
      cases p with
      | false => exact k _ G2 H2 (g1.trans g2) (.bl _)
      | true =>
        refine hc B σ G2 H2 _ (rs.grow (g1.trans g2)) fun t G3 H3 g3 d3 => ?_
        exact hr' rfl G3 H3 u t Q g3.gh (dd_ex g3.gg d2) d3 (k _ G3 H3 ((g1.trans g2).trans g3) (.bl _))⟩
end
end C9
set_option Elab.async false
set_option linter.all false
set_option maxRecDepth 100000
set_option maxHeartbeats 1000000
namespace C9
open PySem PySem.Spec PyProof.Rows L2
/-! ### tests -/
def rdW (X : Cx) (e : Expr) : TT := fun σ H Q => ∀ (wh : Sem Value) (pins : List (Addr × Obj)) (s : Shared), Inv X pins σ H s → wpAny (model X.prog X.w) X.A (isTrue e X.env wh) (TP X pins σ Q) X.xe s
theorem pw_rd {X : Cx} {e : Expr} : PW X e (rdW X e) := ⟨fun wh pins s _ _ _ I h => h wh pins s I⟩
def WD (X : Cx) (δ : List Sl) (e : Expr) (b : Bool) : Prop := RDT (pw X) δ (rdW X e) b
theorem WD.of {X : Cx} {δ : List Sl} {e : Expr} {b : Bool} {t : TT} (h : PW X e t) (r : RDT (pw X) δ t b) : WD X δ e b :=
  fun B σ G H Q rs k wh pins s I => h.run wh pins s σ H Q I (r B σ G H Q rs k)
section
variable {X : Cx} {δ : List Sl} {e a b c : Expr} {rest : List Expr} {p q : Bool} {pos : Pos}
theorem TD.to {q : Bool} (h : TD X δ e p) (eq : p = q) : TD X δ e q := by rw [← eq]; exact h
/-- a value that is a bool, as a test -/
theorem td_v (h : ED X δ e (.bool p)) (he : ∀ whole, isTrue e X.env whole = (do let v ← whole; standAt e.pos; holding [v] (truthy v)) := by intro _; rfl) : TD X δ e p :=
  TD.of (pt_val pe_rd he) fun B σ G H Q rs k => h B σ G H _ rs fun v G1 H1 g1 d1 => by
    cases d1
    exact ⟨p, rfl, k G1 H1 g1⟩
theorem td_not (h : TD X δ e p) : TD X δ (.UnaryOp .Not e pos) (!p) :=
  TD.of (pt_not pt_rd) fun B σ G H Q rs k => h B σ G H _ rs fun G1 H1 g1 => k G1 H1 g1
theorem td_w (h : WD X δ e p) : TD X δ e p := TD.of pw_rd.pt h
theorem wd_and1 (h : TD X δ a p) : WD X δ (.BoolOp .And [a] pos) p := WD.of (pw_and1 pt_rd) h
theorem wd_or1 (h : TD X δ a p) : WD X δ (.BoolOp .Or [a] pos) p := WD.of (pw_or1 pt_rd) h
theorem wd_and (h : TD X δ a p) (h2 : p = true → WD X δ (.BoolOp .And (b :: rest) pos) q) : WD X δ (.BoolOp .And (a :: b :: rest) pos) (p && q) :=
  WD.of (pw_and pt_rd pw_rd) fun B σ G H Q rs k => h B σ G H _ rs fun G1 H1 g1 => by
    cases p with
    | false => exact k G1 H1 g1
    | true =>
      show rdW X _ σ H1 Q
      exact h2 rfl B σ G1 H1 Q (rs.grow g1) fun G2 H2 g2 => k G2 H2 (g1.trans g2)
theorem wd_or (h : TD X δ a p) (h2 : p = false → WD X δ (.BoolOp .Or (b :: rest) pos) q) : WD X δ (.BoolOp .Or (a :: b :: rest) pos) (p || q) :=
  WD.of (pw_or pt_rd pw_rd) fun B σ G H Q rs k => h B σ G H _ rs fun G1 H1 g1 => by
    cases p with
    | true => exact k G1 H1 g1
    | false =>
      show rdW X _ σ H1 Q
      exact h2 rfl B σ G1 H1 Q (rs.grow g1) fun G2 H2 g2 => k G2 H2 (g1.trans g2)
theorem td_and2 (h : TD X δ a p) (h2 : p = true → TD X δ b q) : TD X δ (.BoolOp .And [a, b] pos) (p && q) := td_w (wd_and h fun z => wd_and1 (h2 z))
theorem td_or2 (h : TD X δ a p) (h2 : p = false → TD X δ b q) : TD X δ (.BoolOp .Or [a, b] pos) (p || q) := td_w (wd_or h fun z => wd_or1 (h2 z))
theorem td_and3 {r : Bool} (h : TD X δ a p) (h2 : p = true → TD X δ b q) (h3 : p = true → q = true → TD X δ c r) : TD X δ (.BoolOp .And [a, b, c] pos) (p && (q && r)) := td_w (wd_and h fun z => wd_and (h2 z) fun z2 => wd_and1 (h3 z z2))
theorem td_or3 {r : Bool} (h : TD X δ a p) (h2 : p = false → TD X δ b q) (h3 : p = false → q = false → TD X δ c r) : TD X δ (.BoolOp .Or [a, b, c] pos) (p || (q || r)) := td_w (wd_or h fun z => wd_or (h2 z) fun z2 => wd_or1 (h3 z z2))
/-! ### and, or, not as values, of bools -/
theorem ed_not (h : ED X δ e (.bool p)) : ED X δ (.UnaryOp .Not e pos) (.bool (!p)) :=
  ED.of (pe_not pe_rd) fun B σ G H Q rs k => h B σ G H _ rs fun v G1 H1 g1 d1 => by
    cases d1
    exact ⟨p, rfl, k _ G1 H1 g1 (.bl _)⟩
theorem ed_one {op} {d : PyData} (h : ED X δ e d) : ED X δ (.BoolOp op [e] pos) d := ED.of (pe_one pe_rd) h
theorem ed_and (h : ED X δ a (.bool p)) (h2 : p = true → ED X δ (.BoolOp .And (b :: rest) pos) (.bool q)) : ED X δ (.BoolOp .And (a :: b :: rest) pos) (.bool (p && q)) :=
  ED.of (pe_and pe_rd pe_rd) fun B σ G H Q rs k => h B σ G H _ rs fun v G1 H1 g1 d1 => by
    cases d1
    refine ⟨p, rfl, ?_⟩
    cases p with
    | false => exact k _ G1 H1 g1 (.bl _)
    | true =>
      show rd X _ σ H1 Q
      exact h2 rfl B σ G1 H1 Q (rs.grow g1) fun v G2 H2 g2 d2 => k v G2 H2 (g1.trans g2) d2
theorem ed_or (h : ED X δ a (.bool p)) (h2 : p = false → ED X δ (.BoolOp .Or (b :: rest) pos) (.bool q)) : ED X δ (.BoolOp .Or (a :: b :: rest) pos) (.bool (p || q)) :=
  ED.of (pe_or pe_rd pe_rd) fun B σ G H Q rs k => h B σ G H _ rs fun v G1 H1 g1 d1 => by
    cases d1
    refine ⟨p, rfl, ?_⟩
    cases p with
    | true => exact k _ G1 H1 g1 (.bl _)
    | false =>
      show rd X _ σ H1 Q
      exact h2 rfl B σ G1 H1 Q (rs.grow g1) fun v G2 H2 g2 d2 => k v G2 H2 (g1.trans g2) d2
theorem ed_and2 (h : ED X δ a (.bool p)) (h2 : p = true → ED X δ b (.bool q)) : ED X δ (.BoolOp .And [a, b] pos) (.bool (p && q)) := ed_and h fun z => ed_one (h2 z)
theorem ed_or2 (h : ED X δ a (.bool p)) (h2 : p = false → ED X δ b (.bool q)) : ED X δ (.BoolOp .Or [a, b] pos) (.bool (p || q)) := ed_or h fun z => ed_one (h2 z)
theorem ed_and3 {r : Bool} (h : ED X δ a (.bool p)) (h2 : p = true → ED X δ b (.bool q)) (h3 : p = true → q = true → ED X δ c (.bool r)) : ED X δ (.BoolOp .And [a, b, c] pos) (.bool (p && (q && r))) := ed_and h fun z => ed_and (h2 z) fun z2 => ed_one (h3 z z2)
theorem ed_or3 {r : Bool} (h : ED X δ a (.bool p)) (h2 : p = false → ED X δ b (.bool q)) (h3 : p = false → q = false → ED X δ c (.bool r)) : ED X δ (.BoolOp .Or [a, b, c] pos) (.bool (p || (q || r))) := ed_or h fun z => ed_or (h2 z) fun z2 => ed_one (h3 z z2)
theorem ed_if {d : PyData} (h : TD X δ c p) (h1 : p = true → ED X δ a d) (h2 : p = false → ED X δ b d) : ED X δ (.IfExp c a b pos) d :=
  ED.of (pe_ifExp pt_rd pe_rd pe_rd) fun B σ G H Q rs k => h B σ G H _ rs fun G1 H1 g1 => by
    cases p with
    | true =>
      show rd X _ σ H1 Q
      exact h1 rfl B σ G1 H1 Q (rs.grow g1) fun v G2 H2 g2 d2 => k v G2 H2 (g1.trans g2) d2
    | false =>
      show rd X _ σ H1 Q
      exact h2 rfl B σ G1 H1 Q (rs.grow g1) fun v G2 H2 g2 d2 => k v G2 H2 (g1.trans g2) d2

/-! ### argument lists, displays -/
theorem ad_nil : AD X δ [] [] := AD.of pa_nil fun B σ G H Q rs k => k [] G H (Gr.refl rs.ex) .nil
theorem ad_cons {es : List Expr} {d : PyData} {ds : List PyData} (h : ED X δ e d) (hr : AD X δ es ds) (hs : starEach (e :: es) X.env = (false, eval e X.env) :: starEach es X.env := by rfl) : AD X δ (e :: es) (d :: ds) :=
  AD.of (pa_cons pe_rd pa_rd hs) fun B σ G H Q rs k => h B σ G H _ rs fun v G1 H1 g1 d1 => hr B σ G1 H1 _ (rs.grow g1) fun vs G2 H2 g2 d2 => k (v :: vs) G2 H2 (g1.trans g2) (.cons (dd_ex g2.gg d1) d2)
theorem ed_tup {es : List Expr} {ds : List PyData} {x1} (h : AD X δ es ds) (hz : ds.length ≤ 100000) : ED X δ (.Tuple es x1 pos) (.tuple ds) :=
  ED.of (pe_tup pa_rd) fun B σ G H Q rs k => h B σ G H _ rs fun vs G1 H1 g1 d1 => ⟨by rw [dda_len d1]; exact Nat.le_trans hz (by decide), fun p hp => by
    have g := Gr.new (o := .tup vs) g1.gh hp
    exact k _ _ _ (g1.trans g) (.tup upd_same (dda_ex g.gg d1))⟩
theorem ld_lst {es : List Expr} {ds : List PyData} (h : AD X δ es ds) (hz : ds.length ≤ 100000) : LD X δ (.List es pos) ds :=
  LD.of (pe_lst pa_rd) fun B σ G H Q rs k => h B σ G H _ rs fun vs G1 H1 g1 d1 => ⟨by rw [dda_len d1]; exact Nat.le_trans hz (by decide), fun p hp =>
    k p vs G1 _ (g1.trans (Gr.raw g1.gh hp)) (g1.hh.free hp) (g1.gh.free hp) upd_same d1⟩
theorem ed_lst {es : List Expr} {ds : List PyData} (h : AD X δ es ds) (hz : ds.length ≤ 100000) : ED X δ (.List es pos) (.list ds) := (ld_lst h hz).ed

/-! ### subscripts -/
theorem dda_at {G : Hp} {vs : List V} {ds : List PyData} {i : Int} {d : PyData} (h : DdAll G vs ds) (e : atI ds i = some d) : ∃ v, atI vs i = some v ∧ Dd G v d := by
  unfold atI at e ⊢
  rw [dda_len h]
  cases q : ixN ds.length i with
  | none => rw [q] at e; cases e
  | some j =>
    rw [q] at e
    exact dda_get h e
theorem ed_ix {ds : List PyData} {y d : PyData} {i : Int} (hy : y = .list ds ∨ y = .tuple ds) (he : atI ds i = some d) (ha : ED X δ a y) (hb : ED X δ b (.int i)) (hs : PlainIx b := by intro _ _; rfl) : ED X δ (.Subscript a b pos) d :=
  ED.of (pe_ix ix_seq pe_rd pe_rd hs) fun B σ G H Q rs k => ha B σ G H _ rs fun v G1 H1 g1 d1 => hb B σ G1 H1 _ (rs.grow g1) fun u G2 H2 g2 d2 => by
    cases d2
    rcases hy with rfl | rfl
    · cases d1 with
      | @lst p vs _ h1 r1 =>
      obtain ⟨w, ew, dw⟩ := dda_at r1 he
      exact .inl ⟨p, vs, i, w, rfl, rfl, .inl (.inl (g2.gh _ _ (g2.gg _ _ h1))), ew, k w G2 H2 (g1.trans g2) (dd_ex g2.gg dw)⟩
    · cases d1 with
      | @tup p vs _ h1 r1 =>
      obtain ⟨w, ew, dw⟩ := dda_at r1 he
      exact .inr (.inl ⟨p, vs, i, w, rfl, rfl, .inl (.inl (g2.gh _ _ (g2.gg _ _ h1))), ew, k w G2 H2 (g1.trans g2) (dd_ex g2.gg dw)⟩)
theorem ed_ixN {ds : List PyData} {y d : PyData} {i : Int} {j : Nat} (hy : y = .list ds ∨ y = .tuple ds) (hi : i = (j : Int)) (he : ds[j]? = some d) (ha : ED X δ a y) (hb : ED X δ b (.int i)) (hs : PlainIx b := by intro _ _; rfl) : ED X δ (.Subscript a b pos) d :=
  ed_ix hy (by rw [hi]; exact atI_nat he) ha hb hs
/-- l[k:] -/
theorem cut_drop (xs : List V) (k : Nat) : cutV xs (some (k : Int)) none = xs.drop k := by
  unfold cutV
  rw [HT.sIx_nat, HT.sIx_none]
  by_cases h : k ≤ xs.length
  · rw [Nat.min_eq_left h]
    refine List.take_of_length_le ?_
    rw [List.length_drop]
    exact Nat.le_refl _
  · rw [Nat.min_eq_right (by omega), List.drop_of_length_le (by omega : xs.length ≤ k), List.drop_of_length_le (Nat.le_refl _)]
    simp
theorem ed_dropL {ds : List PyData} {i : Int} {j : Nat} {p2 : Pos} (hi : i = (j : Int)) (ha : ED X δ a (.list ds)) (hb : ED X δ b (.int i)) : ED X δ (.Subscript a (.Slice (some b) none none p2) pos) (.list (ds.drop j)) :=
  ED.of (pe_slice sl_list pe_rd (po_some pe_rd) po_none) fun B σ G H Q rs k => ha B σ G H _ rs fun v G1 H1 g1 d1 => hb B σ G1 H1 _ (rs.grow g1) fun u G2 H2 g2 d2 => by
    cases d2
    cases d1 with
    | @lst p vs _ h1 r1 =>
    refine ⟨i, rfl, p, vs, rfl, .inl (.inl (g2.gh _ _ (g2.gg _ _ h1))), fun t ht => ?_⟩
    rw [hi, cut_drop]
    have g := Gr.new (o := .lst (vs.drop j)) g2.gh ht
    exact k _ _ _ ((g1.trans g2).trans g) (.lst upd_same (dda_ex g.gg (dda_drop j (dda_ex g2.gg r1))))
theorem ed_dropT {ds : List PyData} {i : Int} {j : Nat} {p2 : Pos} (hi : i = (j : Int)) (ha : ED X δ a (.tuple ds)) (hb : ED X δ b (.int i)) : ED X δ (.Subscript a (.Slice (some b) none none p2) pos) (.tuple (ds.drop j)) :=
  ED.of (pe_slice sl_tupA pe_rd (po_some pe_rd) po_none) fun B σ G H Q rs k => ha B σ G H _ rs fun v G1 H1 g1 d1 => hb B σ G1 H1 _ (rs.grow g1) fun u G2 H2 g2 d2 => by
    cases d2
    cases d1 with
    | @tup p vs _ h1 r1 =>
    have rr := dda_ex g2.gg r1
    refine ⟨i, rfl, p, vs, rfl, .inl (.inl (g2.gh _ _ (g2.gg _ _ h1))), fun hw => ?_, fun _ t ht => ?_⟩
    · have hl := dda_len r1
      have e : ds.drop j = ds := by
        have h0 := hw.1
        rw [hi, HT.sIx_nat] at h0
        have hj : j = 0 ∨ ds.length = 0 := by omega
        rcases hj with z | z
        · rw [z]; rfl
        · rw [List.length_eq_zero_iff.mp z]; cases j <;> rfl
      rw [e] at k
      exact k _ G2 H2 (g1.trans g2) (.tup (g2.gg _ _ h1) rr)
    · rw [hi, cut_drop]
      have g := Gr.new (o := .tup (vs.drop j)) g2.gh ht
      exact k _ _ _ ((g1.trans g2).trans g) (.tup upd_same (dda_ex g.gg (dda_drop j rr)))

/-! ### built-ins -/
theorem ed_len {ds : List PyData} {y : PyData} {p : Pos} (hy : y = .list ds ∨ y = .tuple ds) (ha : ED X δ a y) (hm : X.mg "len" = none) (hg : Gl X "len" := by rfl) (hs : starEach [a] X.env = (false, eval a X.env) :: starEach [] X.env := by rfl) :
    ED X δ (.Call (.Name "len" p) [a] [] pos) (.int (ds.length : Int)) :=
  ED.of (pe_callB call_len_seq hg hm PySem.boot_len (pa_cons pe_rd pa_nil hs) (by decide) (by decide) hs) fun B σ G H Q rs k => ha B σ G H _ rs fun v G1 H1 g1 d1 => by
    rcases hy with rfl | rfl
    · cases d1 with
      | @lst p vs _ h1 r1 => exact ⟨p, vs, rfl, .inl (.inl (.inl (g1.gh _ _ h1))), by rw [dda_len r1]; exact k _ G1 H1 g1 (.int _)⟩
    · cases d1 with
      | @tup p vs _ h1 r1 => exact ⟨p, vs, rfl, .inr (.inl (.inl (g1.gh _ _ h1))), by rw [dda_len r1]; exact k _ G1 H1 g1 (.int _)⟩
theorem ed_tuple {ds : List PyData} {p : Pos} (ha : ED X δ a (.list ds)) (hm : X.mg "tuple" = none) (hg : Gl X "tuple" := by rfl) (hs : starEach [a] X.env = (false, eval a X.env) :: starEach [] X.env := by rfl) :
    ED X δ (.Call (.Name "tuple" p) [a] [] pos) (.tuple ds) :=
  ED.of (pe_tupleOf hg hm pe_rd hs) fun B σ G H Q rs k => ha B σ G H _ rs fun v G1 H1 g1 d1 => by
    cases d1 with
    | @lst p vs _ h1 r1 =>
    refine .inl ⟨p, vs, rfl, .inl (.inl (g1.gh _ _ h1)), fun t ht => ?_⟩
    have g := Gr.new (o := .tup vs) g1.gh ht
    exact k _ _ _ (g1.trans g) (.tup upd_same (dda_ex g.gg r1))
theorem dda_bls {G : Hp} : ∀ {vs : List V} {bs : List Bool}, DdAll G vs (bs.map PyData.bool) → vs = bs.map V.bl
  | vs, [], h => by cases h; rfl
  | vs, b :: bs, h => by
    cases h with
    | cons h1 h2 => cases h1; rw [dda_bls h2]; rfl
theorem dda_ints {G : Hp} : ∀ {vs : List V} {bs : List Int}, DdAll G vs (bs.map PyData.int) → vs = bs.map V.int
  | vs, [], h => by cases h; rfl
  | vs, b :: bs, h => by
    cases h with
    | cons h1 h2 => cases h1; rw [dda_ints h2]; rfl
theorem ed_all {bs : List Bool} {p : Pos} (ha : ED X δ a (.list (bs.map PyData.bool))) (hm : X.mg "all" = none) (hc : X.calm = true := by rfl) (hg : Gl X "all" := by rfl) (hs : starEach [a] X.env = (false, eval a X.env) :: starEach [] X.env := by rfl) :
    ED X δ (.Call (.Name "all" p) [a] [] pos) (.bool (bs.all id)) :=
  ED.of (pe_callB (cr_all hc) hg hm (by decide +kernel) (pa_cons pe_rd pa_nil hs) (by decide) (by decide) hs) fun B σ G H Q rs k => ha B σ G H _ rs fun v G1 H1 g1 d1 => by
    cases d1 with
    | @lst p vs _ h1 r1 =>
    have e := dda_bls r1
    subst e
    exact ⟨p, bs, rfl, .inl (.inl (g1.gh _ _ h1)), k _ G1 H1 g1 (.bl _)⟩
def maxI : List Int → Int
  | [] => 0
  | [x] => x
  | x :: r => if maxI r ≤ x then x else maxI r
theorem maxI_is : ∀ (l : List Int), 0 < l.length → maxI l ∈ l ∧ ∀ y ∈ l, y ≤ maxI l
  | [], h => absurd h (by decide)
  | [x], _ => ⟨by simp [maxI], fun y hy => by simp at hy; subst hy; simp [maxI]⟩
  | x :: y :: r, _ => by
    obtain ⟨h1, h2⟩ := maxI_is (y :: r) (by simp)
    have e : maxI (x :: y :: r) = if maxI (y :: r) ≤ x then x else maxI (y :: r) := by simp [maxI]
    rw [e]
    split
    · rename_i hle
      refine ⟨List.mem_cons_self, fun z hz => ?_⟩
      rcases List.mem_cons.mp hz with rfl | hz
      · exact Int.le_refl _
      · exact Int.le_trans (h2 z hz) hle
    · rename_i hle
      refine ⟨List.mem_cons_of_mem _ h1, fun z hz => ?_⟩
      rcases List.mem_cons.mp hz with rfl | hz
      · omega
      · exact h2 z hz
theorem ed_max {ns : List Int} {p : Pos} (hn : 0 < ns.length) (ha : ED X δ a (.list (ns.map PyData.int))) (hm : X.mg "max" = none) (hc : X.calm = true := by rfl) (hg : Gl X "max" := by rfl) (hs : starEach [a] X.env = (false, eval a X.env) :: starEach [] X.env := by rfl) :
    ED X δ (.Call (.Name "max" p) [a] [] pos) (.int (maxI ns)) :=
  ED.of (pe_callB (cr_max hc) hg hm (by decide +kernel) (pa_cons pe_rd pa_nil hs) (by decide) (by decide) hs) fun B σ G H Q rs k => ha B σ G H _ rs fun v G1 H1 g1 d1 => by
    cases d1 with
    | @lst p vs _ h1 r1 =>
    have e := dda_ints r1
    subst e
    refine ⟨p, ns, rfl, .inl (.inl (g1.gh _ _ h1)), hn, fun m hm hy => ?_⟩
    obtain ⟨q1, q2⟩ := maxI_is ns hn
    have e : m = maxI ns := Int.le_antisymm (q2 m hm) (hy _ q1)
    rw [e]
    exact k _ G1 H1 g1 (.int _)
/-- isinstance(x, T), T a built-in class -/
def tyD : PyData → String
  | .none => "NoneType"
  | .bool _ => "bool"
  | .int _ => "int"
  | .str _ => "str"
  | .list _ => "list"
  | .tuple _ => "tuple"
  | .dict _ => "dict"
theorem dd_ty {K : PySem.W.Frag} {G : Hp} {v : V} {d : PyData} (h : Dd G v d) : TyX K G v (.type (tyD d)) := by
  cases h with
  | non => exact .base .non
  | bl b => exact .base (.bl b)
  | int i => exact .base (.int i)
  | str x => exact .base (.str x)
  | lst h _ => exact .base (.lst h)
  | tup h _ => exact .base (.tup h)
theorem ed_isi {d : PyData} {T : String} {r : Bool} {p p2 : Pos} {y : Str} (ha : ED X δ a d) (hv : bootBuiltins y = some (.type T)) (hk : kitB (tyD d) T = some r) (hm : X.mg "isinstance" = none) (hmT : X.mg y = none) (hg : Gl X "isinstance" := by rfl) (hgT : Gl X y := by rfl)
    (hn : y ≠ "__name__" := by decide) (hdb : (y == ("__debug__" : Str)) = false := by decide) (hs : starEach [a, .Name y p2] X.env = (false, eval a X.env) :: starEach [.Name y p2] X.env := by rfl) :
    ED X δ (.Call (.Name "isinstance" p) [a, .Name y p2] [] pos) (.bool r) :=
  ED.of (pe_callB call_isi hg hm (by decide +kernel) (pa_cons pe_rd (pa_cons (pe_bltn (v := .ty T) hgT hmT hv rfl hn hdb) pa_nil) hs) (by decide) (by decide) hs) fun B σ G H Q rs k => ha B σ G H _ rs fun v G1 H1 g1 d1 =>
    ⟨v, .ty T, .type (tyD d), .type T, r, rfl, .ty T, dd_ty (dd_ex g1.gh d1), kit_ty hk, k _ G1 H1 g1 (.bl _)⟩
/-- list(range(n)) -/
theorem ld_listRange {n : Int} {p p2 pos2 : Pos} (h0 : 0 ≤ n) (h1 : n ≤ 100000) (ha : ED X δ a (.int n)) (hmL : X.mg "list" = none) (hmR : X.mg "range" = none) (hc : X.calm = true := by rfl) (hgL : Gl X "list" := by rfl) (hgR : Gl X "range" := by rfl)
    (hs : starEach [a] X.env = (false, eval a X.env) :: starEach [] X.env := by rfl) (hs2 : starEach [.Call (.Name "range" p2) [a] [] pos2] X.env = (false, eval (.Call (.Name "range" p2) [a] [] pos2) X.env) :: starEach [] X.env := by rfl) :
    LD X δ (.Call (.Name "list" p) [.Call (.Name "range" p2) [a] [] pos2] [] pos) ((List.range n.toNat).map fun (i : Nat) => PyData.int (i : Int)) :=
  LD.of (pe_listRg hc hgL hmL (prg_1 hgR hmR pe_rd hs) hs2) fun B σ G H Q rs k => ha B σ G H _ rs fun v G1 H1 g1 d1 => by
    cases d1
    refine ⟨n, rfl, RgOk.of_le (by omega) (by omega) (by omega) (by omega), fun q hq => ?_⟩
    refine k q _ G1 _ (g1.trans (Gr.raw g1.gh hq)) (g1.hh.free hq) (g1.gh.free hq) upd_same ?_
    have e : (n - 0).toNat = n.toNat := by rw [Int.sub_zero]
    unfold rgV
    rw [e]
    have all : ∀ l : List Nat, DdAll G1 (l.map fun i => V.int (0 + (i : Nat))) (l.map fun (i : Nat) => PyData.int (i : Int)) := by
      intro l
      induction l with
      | nil => exact .nil
      | cons i l ih =>
        refine .cons ?_ ih
        show Dd G1 (V.int (0 + (i : Int))) (PyData.int (i : Int))
        rw [Int.zero_add]
        exact .int _
    exact all _
end
end C9
set_option Elab.async false
set_option linter.all false
set_option maxRecDepth 100000
set_option maxHeartbeats 1000000
namespace C9
open PySem PySem.Spec PyProof.Rows L2

/-! ### blocks -/
section
variable {X : Cx} {δ : List Sl} {e a b c : Expr} {rest body els : List Stmt} {pos pos' : Pos} {E : En}
theorem sd_nil (h : E.nx δ) : SD X δ [] E := SD.of pss_nil fun B σ G H D rs f => f.nx δ σ G H h rs
/-- a statement by its reading, then the rest -/
theorem sd_cons {st : Stmt} {t : TS} (h : PS X st t) (r : ∀ (B : Bs) (σ : L2.St) (G H : Hp) (D : Ends), RS (pw X) B δ σ G H → Fol (pw X) B D E → t { D with nx := rdS X rest D } σ H) : SD X δ (st :: rest) E :=
  SD.of (pss_cons h pss_rd) fun B σ G H D rs f => r B σ G H D rs f
/-- name = e -/
theorem sd_set {i : Nat} {x : Str} {d : PyData} (he : ED X δ e d) (k : SD X (δ.set i (.val d)) rest E) (hN : X.N.Nodup := by assumption) (hi : X.N[i]? = some x := by rfl) (hx : Loc X.env.scope x := by first | exact Or.inl rfl | exact Or.inr rfl)
    (hs : swapsWith e (some (.Name x pos')) pos.line X.env = pure false := by rfl) (hf : X.fn x = true ∨ X.env.scope.names.lookup x = some .local := by first | exact .inl rfl | exact .inr rfl) : SD X δ (.Assign [.Name x pos'] e pos :: rest) E :=
  sd_cons (ps_set hN hi hx pe_rd hs hf) fun B σ G H D rs f => he B σ G H _ rs fun v G1 H1 g1 d1 => k B _ G1 H1 D ((rs.grow g1).set d1) f
/-- name = a new list -/
theorem sd_own {i : Nat} {x : Str} {ds : List PyData} (he : LD X δ e ds) (k : SD X (δ.set i (.own ds)) rest E) (hN : X.N.Nodup := by assumption) (hi : X.N[i]? = some x := by rfl) (hx : Loc X.env.scope x := by first | exact Or.inl rfl | exact Or.inr rfl)
    (hs : swapsWith e (some (.Name x pos')) pos.line X.env = pure false := by rfl) (hf : X.fn x = true ∨ X.env.scope.names.lookup x = some .local := by first | exact .inl rfl | exact .inr rfl) : SD X δ (.Assign [.Name x pos'] e pos :: rest) E :=
  sd_cons (ps_set hN hi hx pe_rd hs hf) fun B σ G H D rs f => he B σ G H _ rs fun l vs G1 H1 g1 f1 f2 f3 d1 => by
    have rs1 := rs.grow g1
    refine k B _ G1 H1 D (rs1.put rs1.gr (Ex.refl _) (fun _ _ _ _ _ _ q => q) ⟨l, vs, rfl, f2, rs.gr.hh.free f1, f3, d1⟩ fun _ j y a hj e1 m ea s1 => ?_) f
    cases ea
    have q := rs.sl j y _ e1 s1
    cases y with
    | own _ => obtain ⟨l', _, e2, _, _, h3, _⟩ := q; cases e2; rw [f1] at h3; cases h3
    | oat l' _ => obtain ⟨_, e2, _, _, h3, _⟩ := q; cases e2; rw [f1] at h3; cases h3
    | dct _ => obtain ⟨l', _, e2, _, _, h3, _⟩ := q; cases e2; rw [f1] at h3; cases h3
    | _ => cases m
/-- a list of one's own is data from now on -/
theorem sd_freeze {i : Nat} {ds : List PyData} (hd : δ[i]? = some (.own ds)) (k : SD X (δ.set i (.val (.list ds))) rest E) : SD X δ rest E := fun B σ G H D rs f => by
  obtain ⟨o, e, l, vs, rfl, h1, h2, h3, r⟩ := rs.get hd
  have hi : i < σ.length := (List.getElem?_eq_some_iff.mp e).1
  have es : σ.set i (some (.ref l)) = σ := by
    have q := (List.getElem?_eq_some_iff.mp e).2
    rw [← q]
    exact List.set_getElem_self hi
  have ex : Ex G (upd G l (.lst vs)) := Ex.new h1
  have gh : Ex (upd G l (.lst vs)) H := fun a u q => by
    by_cases ha : a = l
    · subst ha; rw [upd_same] at q; cases q; exact h3
    · rw [upd_ne ha] at q; exact rs.ex a u q
  have nb : ∀ b, B.h b ≠ none → b ≠ l := fun b hb z => hb (by rw [z]; exact h2)
  have rs2 := rs.put (i := i) (x := .val (.list ds)) (o := some (.ref l)) (G' := upd G l (.lst vs)) (H' := H) ⟨rs.gr.gg.trans ex, rs.gr.hh, gh, fun b n1 n2 => by rw [upd_ne (nb b n1)]; exact rs.gr.ap b n1 n2, rs.gr.tb⟩ ex
    (fun j y hj e1 p s1 q => by
      cases y with
      | no => trivial
      | val d => obtain ⟨v, q1, q2⟩ := q; exact ⟨v, q1, dd_ex ex q2⟩
      | own ds' =>
        obtain ⟨l', vs', q1, q2, q3, q4, q5⟩ := q
        have hl : l' ≠ l := fun z => rs.ap j i (.own ds') (.own ds) l hj e1 hd rfl rfl (by rw [s1, q1, z]) e
        exact ⟨l', vs', q1, by rw [upd_ne hl]; exact q2, q3, q4, dda_ex ex q5⟩
      | oat l' ds' =>
        obtain ⟨vs', q1, q2, q3, q4, q5⟩ := q
        have hl : l' ≠ l := fun z => rs.ap j i (.oat l' ds') (.own ds) l hj e1 hd rfl rfl (by rw [s1, q1, z]) e
        exact ⟨vs', q1, by rw [upd_ne hl]; exact q2, q3, q4, dda_ex ex q5⟩
      | dct ds' =>
        obtain ⟨l', vs', q1, q2, q3, q4, q5⟩ := q
        have hl : l' ≠ l := fun z => rs.ap j i (.dct ds') (.own ds) l hj e1 hd rfl rfl (by rw [s1, q1, z]) e
        exact ⟨l', vs', q1, by rw [upd_ne hl]; exact q2, q3, q4, kok_ex ex q5⟩
      | fdc kvs => obtain ⟨l', xs, od, q1, q2, q3⟩ := q; exact ⟨l', xs, od, q1, ex _ _ q2, kok_ex ex q3⟩)
    ⟨.ref l, rfl, .lst upd_same (dda_ex ex r)⟩ (fun m => by cases m)
  rw [es] at rs2
  exact k B σ _ H D rs2 f
theorem sd_ret {d : PyData} (he : ED X δ e d) (h : E.rt δ d) : SD X δ (.Return (some e) pos :: rest) E :=
  sd_cons (ps_ret pe_rd) fun B σ G H D rs f => he B σ G H _ rs fun v G1 H1 g1 d1 => f.rt δ d v σ G1 H1 h (rs.grow g1) d1
/-- an if; behind it the rest -/
theorem sd_if {p : Bool} (hc : TD X δ c p) (h1 : p = true → SD X δ body { E with nx := fun δ' => SD X δ' rest E }) (h2 : p = false → SD X δ els { E with nx := fun δ' => SD X δ' rest E }) : SD X δ (.If c body els pos :: rest) E :=
  sd_cons (ps_if pt_rd pss_rd pss_rd) fun B σ G H D rs f => hc B σ G H _ rs fun G1 H1 g1 => by
    have fo : Fol (pw X) B { D with nx := rdS X rest D } { E with nx := fun δ' => SD X δ' rest E } :=
      ⟨fun δ' σ' G' H' h rs' => h B σ' G' H' D rs' f, f.rt, f.bk, f.ct⟩
    cases p with
    | true =>
      show rdS X body { D with nx := rdS X rest D } σ H1
      exact h1 rfl B σ G1 H1 _ (rs.grow g1) fo
    | false =>
      show rdS X els { D with nx := rdS X rest D } σ H1
      exact h2 rfl B σ G1 H1 _ (rs.grow g1) fo
/-- if c: .. without else, .. known not to be taken -/
theorem sd_skip {p : Bool} (hc : TD X δ c p) (k : SD X δ rest E) (hp : p = false := by rfl) : SD X δ (.If c body [] pos :: rest) E := sd_if hc (fun z => by rw [hp] at z; cases z) fun _ => sd_nil k
theorem sd_yes {p : Bool} {els : List Stmt} (hc : TD X δ c p) (k : SD X δ body { E with nx := fun δ' => SD X δ' rest E }) (hp : p = true := by rfl) : SD X δ (.If c body els pos :: rest) E := sd_if hc (fun _ => k) fun z => by rw [hp] at z; cases z
theorem sd_break (h : E.bk δ) : SD X δ (.Break pos :: rest) E := sd_cons ps_break fun B σ G H D rs f => f.bk δ σ G H h rs
theorem sd_cont (h : E.ct δ) : SD X δ (.Continue pos :: rest) E := sd_cons ps_continue fun B σ G H D rs f => f.ct δ σ G H h rs
theorem SD.mono {E' : En} (h : SD X δ body E) (n : ∀ δ, E.nx δ → E'.nx δ) (r : ∀ δ d, E.rt δ d → E'.rt δ d) (k : ∀ δ, E.bk δ → E'.bk δ) (c : ∀ δ, E.ct δ → E'.ct δ) : SD X δ body E' := fun B σ G H D rs f =>
  h B σ G H D rs ⟨fun δ σ G H q => f.nx δ σ G H (n _ q), fun δ d v σ G H q => f.rt δ d v σ G H (r _ _ q), fun δ σ G H q => f.bk δ σ G H (k _ q), fun δ σ G H q => f.ct δ σ G H (c _ q)⟩
/-- l.append(e), l.extend(e): l a list of one's own -/
theorem sd_append {i : Nat} {x : Str} {d : PyData} {ds : List PyData} {px apos cpos : Pos} (hd : δ[i]? = some (.own ds)) (hz : ds.length < 100000) (he : ED X δ e d) (k : SD X (δ.set i (.own (ds ++ [d]))) rest E)
    (hN : X.N[i]? = some x := by rfl) (hv : Vis X.env.scope x := by first | exact Or.inl rfl | exact Or.inr (Or.inl rfl) | exact Or.inr (Or.inr rfl))
    (h1 : (x == ("__debug__" : Str)) = false := by decide) (h2 : (x == ("__classdict__" : Str)) = false := by decide)
    (hs : starEach [e] X.env = (false, eval e X.env) :: starEach [] X.env := by rfl)
    (hbase : attributeBase (.Name x px) "append" X.env (eval (.Name x px) X.env) = eval (.Name x px) X.env := by rfl)
    (hfew : ((backTo cpos (starEach [e] X.env)).all (fun x => !x.1) && (backToKw cpos (keywordEach [] X.env)).all (fun x => x.1.isSome)
      && decide (([e] : List Expr).length + ([] : List Keyword).length + (if ([] : List Keyword).isEmpty then 0 else 1) < 30)) = true := by rfl)
    (hline : (apos.endLine == cpos.line) = true := by rfl) (hsw : swapsWith (.Call (.Attribute (.Name x px) "append" apos) [e] [] cpos) none pos.line X.env = pure false := by rfl) :
    SD X δ (.Expr (.Call (.Attribute (.Name x px) "append" apos) [e] [] cpos) pos :: rest) E :=
  sd_cons (ps_expr (pe_bm PySem.F.plainAttrs_list PySem.F.slot_list_append PySem.F.type_list_append mt_append (pe_var hN hv h1 h2) (pa_cons pe_rd pa_nil hs) hbase hfew hline hs) hsw) fun B σ G H D rs f => by
    obtain ⟨o, eo, l, vs, rfl, q1, q2, q3, q4⟩ := rs.get hd
    refine ⟨.ref l, eo, .inl ⟨rfl, vs, .inl (.inl q3)⟩, he B σ G H _ rs fun v G1 H1 g1 d1 => ?_⟩
    have rs1 := rs.grow g1
    have hl : H1 l = some (.lst vs) := g1.hh _ _ q3
    have gl : G1 l = none := g1.ap l (by rw [q3]; simp) q1
    refine ⟨l, vs, v, rfl, rfl, hl, by rw [dda_len q4]; exact Nat.lt_of_lt_of_le hz (by decide), ?_⟩
    have hi : i < σ.length := (List.getElem?_eq_some_iff.mp eo).1
    have es : σ.set i (some (.ref l)) = σ := by
      have q := (List.getElem?_eq_some_iff.mp eo).2
      rw [← q]
      exact List.set_getElem_self hi
    have mono : ∀ {J : Hp} {u : HO}, (∀ a o, J a = some o → a ≠ l) → Ex J H1 → Ex J (upd H1 l u) := fun {J u} n e a o q => by rw [upd_ne (n a o q)]; exact e a o q
    have n1 : ∀ a o, B.h a = some o → a ≠ l := fun a o q z => by rw [z, q2] at q; cases q
    have n2 : ∀ a o, G1 a = some o → a ≠ l := fun a o q z => by rw [z, gl] at q; cases q
    have rs2 := rs1.put (i := i) (x := .own (ds ++ [d])) (o := some (.ref l)) (G' := G1) (H' := upd H1 l (.lst (vs ++ [v]))) ⟨rs1.gr.gg, mono n1 rs1.gr.hh, mono n2 rs1.ex, rs1.gr.ap, fun t => (rs1.gr.tb t).lst hl⟩ (Ex.refl _)
      (fun j y hj e1 p s1 q => by
        cases y with
        | no => trivial
        | val d => exact q
        | own ds' =>
          obtain ⟨l', vs', w1, w2, w3, w4, w5⟩ := q
          have hn : l' ≠ l := fun z => rs.ap j i (.own ds') (.own ds) l hj e1 hd rfl rfl (by rw [s1, w1, z]) eo
          exact ⟨l', vs', w1, w2, w3, by rw [upd_ne hn]; exact w4, w5⟩
        | oat l' ds' =>
          obtain ⟨vs', w1, w2, w3, w4, w5⟩ := q
          have hn : l' ≠ l := fun z => rs.ap j i (.oat l' ds') (.own ds) l hj e1 hd rfl rfl (by rw [s1, w1, z]) eo
          exact ⟨vs', w1, w2, w3, by rw [upd_ne hn]; exact w4, w5⟩
        | dct ds' =>
          obtain ⟨l', vs', w1, w2, w3, w4, w5⟩ := q
          have hn : l' ≠ l := fun z => rs.ap j i (.dct ds') (.own ds) l hj e1 hd rfl rfl (by rw [s1, w1, z]) eo
          exact ⟨l', vs', w1, w2, w3, by rw [upd_ne hn]; exact w4, w5⟩
        | fdc kvs => exact q)
      ⟨l, vs ++ [v], rfl, gl, q2, upd_same, dda_app (dda_ex g1.gg q4) (.cons d1 .nil)⟩
      (fun _ j y a hj e1 m ea s1 => rs.ap j i y (.own ds) a hj e1 hd m rfl s1 (by rw [eo, ea]))
    rw [es] at rs2
    exact k B σ _ _ D rs2 f
theorem sd_extend {i : Nat} {x : Str} {es ds : List PyData} {px apos cpos : Pos} (hd : δ[i]? = some (.own ds)) (hz : ds.length + es.length ≤ 100000) (he : ED X δ e (.list es)) (k : SD X (δ.set i (.own (ds ++ es))) rest E)
    (hN : X.N[i]? = some x := by rfl) (hv : Vis X.env.scope x := by first | exact Or.inl rfl | exact Or.inr (Or.inl rfl) | exact Or.inr (Or.inr rfl))
    (h1 : (x == ("__debug__" : Str)) = false := by decide) (h2 : (x == ("__classdict__" : Str)) = false := by decide)
    (hs : starEach [e] X.env = (false, eval e X.env) :: starEach [] X.env := by rfl)
    (hbase : attributeBase (.Name x px) "extend" X.env (eval (.Name x px) X.env) = eval (.Name x px) X.env := by rfl)
    (hfew : ((backTo cpos (starEach [e] X.env)).all (fun x => !x.1) && (backToKw cpos (keywordEach [] X.env)).all (fun x => x.1.isSome)
      && decide (([e] : List Expr).length + ([] : List Keyword).length + (if ([] : List Keyword).isEmpty then 0 else 1) < 30)) = true := by rfl)
    (hline : (apos.endLine == cpos.line) = true := by rfl) (hsw : swapsWith (.Call (.Attribute (.Name x px) "extend" apos) [e] [] cpos) none pos.line X.env = pure false := by rfl) :
    SD X δ (.Expr (.Call (.Attribute (.Name x px) "extend" apos) [e] [] cpos) pos :: rest) E :=
  sd_cons (ps_expr (pe_bm PySem.F.plainAttrs_list PySem.F.slot_list_extend PySem.F.type_list_extend mt_extend (pe_var hN hv h1 h2) (pa_cons pe_rd pa_nil hs) hbase hfew hline hs) hsw) fun B σ G H D rs f => by
    obtain ⟨o, eo, l, vs, rfl, q1, q2, q3, q4⟩ := rs.get hd
    refine ⟨.ref l, eo, .inl ⟨rfl, vs, .inl (.inl q3)⟩, he B σ G H _ rs fun v G1 H1 g1 d1 => ?_⟩
    cases d1 with
    | @lst b us _ hb rb =>
    have rs1 := rs.grow g1
    have hl : H1 l = some (.lst vs) := g1.hh _ _ q3
    have gl : G1 l = none := g1.ap l (by rw [q3]; simp) q1
    have z1 := dda_len q4
    have z2 := dda_len rb
    refine ⟨l, b, vs, us, rfl, rfl, hl, g1.gh _ _ hb, Nat.le_trans (by omega : vs.length + us.length ≤ 100000) (by decide), ?_⟩
    have hi : i < σ.length := (List.getElem?_eq_some_iff.mp eo).1
    have es' : σ.set i (some (.ref l)) = σ := by
      have q := (List.getElem?_eq_some_iff.mp eo).2
      rw [← q]
      exact List.set_getElem_self hi
    have mono : ∀ {J : Hp} {u : HO}, (∀ a o, J a = some o → a ≠ l) → Ex J H1 → Ex J (upd H1 l u) := fun {J u} n e a o q => by rw [upd_ne (n a o q)]; exact e a o q
    have n1 : ∀ a o, B.h a = some o → a ≠ l := fun a o q z => by rw [z, q2] at q; cases q
    have n2 : ∀ a o, G1 a = some o → a ≠ l := fun a o q z => by rw [z, gl] at q; cases q
    have rs2 := rs1.put (i := i) (x := .own (ds ++ es)) (o := some (.ref l)) (G' := G1) (H' := upd H1 l (.lst (vs ++ us))) ⟨rs1.gr.gg, mono n1 rs1.gr.hh, mono n2 rs1.ex, rs1.gr.ap, fun t => (rs1.gr.tb t).lst hl⟩ (Ex.refl _)
      (fun j y hj e1 p s1 q => by
        cases y with
        | no => trivial
        | val d => exact q
        | own ds' =>
          obtain ⟨l', vs', w1, w2, w3, w4, w5⟩ := q
          have hn : l' ≠ l := fun z => rs.ap j i (.own ds') (.own ds) l hj e1 hd rfl rfl (by rw [s1, w1, z]) eo
          exact ⟨l', vs', w1, w2, w3, by rw [upd_ne hn]; exact w4, w5⟩
        | oat l' ds' =>
          obtain ⟨vs', w1, w2, w3, w4, w5⟩ := q
          have hn : l' ≠ l := fun z => rs.ap j i (.oat l' ds') (.own ds) l hj e1 hd rfl rfl (by rw [s1, w1, z]) eo
          exact ⟨vs', w1, w2, w3, by rw [upd_ne hn]; exact w4, w5⟩
        | dct ds' =>
          obtain ⟨l', vs', w1, w2, w3, w4, w5⟩ := q
          have hn : l' ≠ l := fun z => rs.ap j i (.dct ds') (.own ds) l hj e1 hd rfl rfl (by rw [s1, w1, z]) eo
          exact ⟨l', vs', w1, w2, w3, by rw [upd_ne hn]; exact w4, w5⟩
        | fdc kvs => exact q)
      ⟨l, vs ++ us, rfl, gl, q2, upd_same, dda_app (dda_ex g1.gg q4) rb⟩
      (fun _ j y a hj e1 m ea s1 => rs.ap j i y (.own ds) a hj e1 hd m rfl s1 (by rw [eo, ea]))
    rw [es'] at rs2
    exact k B σ _ _ D rs2 f
/-- while, by an invariant over slots and a measure -/
theorem sd_while (I : List Sl → Prop) (μ : List Sl → Nat) (t : List Sl → Bool) (h0 : I δ) (hc : ∀ δ', I δ' → TD X δ' c (t δ'))
    (hb : ∀ δ', I δ' → t δ' = true → SD X δ' body { nx := fun δ2 => I δ2 ∧ μ δ2 < μ δ', rt := E.rt, bk := fun δ2 => SD X δ2 rest E, ct := fun δ2 => I δ2 ∧ μ δ2 < μ δ' }) (hd : ∀ δ', I δ' → t δ' = false → SD X δ' rest E) (hp : PassesOwn (model X.prog X.w) X.A X.env X.xe := by exact PassesOwn.never) :
    SD X δ (.While c body [] pos :: rest) E :=
  sd_cons (ps_while hp pt_rd pss_rd) fun B σ G H D rs f => by
    refine ⟨fun m σ' H' => ∃ δ' G', I δ' ∧ m = μ δ' ∧ RS (pw X) B δ' σ' G' H', ⟨μ δ, δ, G, h0, rfl, rs⟩, ?_⟩
    rintro m σ' H' ⟨δ', G', i1, rfl, rs'⟩
    refine hc δ' i1 B σ' G' H' _ rs' fun G1 H1 g1 => ?_
    have rs1 := rs'.grow g1
    cases q : t δ' with
    | false =>
      show rdS X rest D σ' H1
      exact hd δ' i1 q B σ' G1 H1 D rs1 f
    | true =>
      rw [if_pos rfl]
      refine ⟨fun σ2 H2 => ∃ δ2 G2, (I δ2 ∧ μ δ2 < μ δ') ∧ RS (pw X) B δ2 σ2 G2 H2, fun σ2 H2 ⟨δ2, G2, ⟨a1, a2⟩, a3⟩ => ⟨μ δ2, a2, δ2, G2, a1, rfl, a3⟩, ?_⟩
      exact hb δ' i1 q B σ' G1 H1 _ rs1 ⟨fun δ2 σ2 G2 H2 h r => ⟨δ2, G2, h, r⟩, f.rt, fun δ2 σ2 G2 H2 h r => h B σ2 G2 H2 D r f, fun δ2 σ2 G2 H2 h r => ⟨δ2, G2, h, r⟩⟩
/-- x, y = e, e a tuple of two -/
theorem sd_tup2 {i j : Nat} {x y : Str} {d1 d2 : PyData} {px py tp : Pos} {kk : Nat} (he : ED X δ e (.tuple [d1, d2])) (k : SD X ((δ.set i (.val d1)).set j (.val d2)) rest E) (hc : X.calm = true := by rfl) (hN : X.N.Nodup := by assumption)
    (hi : X.N[i]? = some x := by rfl) (hj : X.N[j]? = some y := by rfl) (hx : Loc X.env.scope x := by first | exact Or.inl rfl | exact Or.inr rfl) (hy : Loc X.env.scope y := by first | exact Or.inl rfl | exact Or.inr rfl)
    (hfx : X.fn x = true ∨ X.env.scope.names.lookup x = some .local := by first | exact .inl rfl | exact .inr rfl) (hfy : X.fn y = true ∨ X.env.scope.names.lookup y = some .local := by first | exact .inl rfl | exact .inr rfl)
    (hs : swapsWithSole [.Tuple [.Name x px, .Name y py] kk tp] e pos.line X.env = pure false := by rfl) (hw : swappedStores [.Tuple [.Name x px, .Name y py] kk tp] e X.env = pure none := by rfl)
    (h1 : (assignEach [.Tuple [.Name x px, .Name y py] kk tp] X.env).map (·.2) = [assign (.Tuple [.Name x px, .Name y py] kk tp) X.env] := by rfl)
    (hn : (assignEach [.Name x px, .Name y py] X.env).length = 2 := by rfl) (hst : (assignEach [.Name x px, .Name y py] X.env).findIdx? (·.1) = none := by rfl)
    (a1 : (assignEach [.Name x px, .Name y py] X.env).map (·.2) = assign (.Name x px) X.env :: (assignEach [.Name y py] X.env).map (·.2) := by rfl) (a2 : (assignEach [.Name y py] X.env).map (·.2) = assign (.Name y py) X.env :: (assignEach [] X.env).map (·.2) := by rfl) :
    SD X δ (.Assign [.Tuple [.Name x px, .Name y py] kk tp] e pos :: rest) E :=
  sd_cons (ps_asg pe_rd (pg_tup (n := 2) hc (pgs_cons (pg_name hN hi hx hfx) (pgs_cons (pg_name hN hj hy hfy) pgs_nil a2) a1) hn hst) hs hw h1) fun B σ G H D rs f => he B σ G H _ rs fun v G1 H1 g1 dd => by
    cases dd with
    | @tup p us _ h r =>
    cases r with
    | @cons v1 _ _ _ r1 r =>
    cases r with
    | @cons v2 _ _ _ r2 r =>
    cases r
    refine ⟨p, [v1, v2], rfl, .inl (.inl (g1.gh _ _ h)), rfl, v1, [v2], rfl, v2, [], rfl, rfl, ?_⟩
    exact k B _ G1 H1 D (((rs.grow g1).set r1).set r2) f
/-- x, y = e1, e2, both written, plain local names -/
theorem sd_par {i j : Nat} {x y : Str} {d1 d2 : PyData} {px py tp pt2 : Pos} {kk k2 : Nat} (ha : ED X δ a d1) (hb : ED X δ b d2) (k : SD X ((δ.set i (.val d1)).set j (.val d2)) rest E) (hc : X.calm = true := by rfl) (hN : X.N.Nodup := by assumption) (hij : i ≠ j := by decide)
    (hi : X.N[i]? = some x := by rfl) (hj : X.N[j]? = some y := by rfl) (hx : X.env.scope.names.lookup x = some .local := by rfl) (hy : X.env.scope.names.lookup y = some .local := by rfl)
    (hs1 : starEach [a, b] X.env = (false, eval a X.env) :: starEach [b] X.env := by rfl) (hs2 : starEach [b] X.env = (false, eval b X.env) :: starEach [] X.env := by rfl)
    (hw : swappedStores [.Tuple [.Name x px, .Name y py] kk tp] (.Tuple [a, b] k2 pt2) X.env = pure (some [x, y]) := by rfl)
    (hs : swapsWithSole [.Tuple [.Name x px, .Name y py] kk tp] (.Tuple [a, b] k2 pt2) pos.line X.env = pure false := by rfl) :
    SD X δ (.Assign [.Tuple [.Name x px, .Name y py] kk tp] (.Tuple [a, b] k2 pt2) pos :: rest) E :=
  sd_cons (ps_par hc hN hi hj hij hx hy (pa_cons pe_rd (pa_cons pe_rd pa_nil hs2) hs1) hw hs) fun B σ G H D rs f => ha B σ G H _ rs fun v G1 H1 g1 e1 => hb B σ G1 H1 _ (rs.grow g1) fun u G2 H2 g2 e2 =>
    ⟨v, u, rfl, k B _ G2 H2 D ((((rs.grow g1).grow g2).set (dd_ex g2.gg e1)).set e2) f⟩
end
end C9
set_option Elab.async false
set_option linter.all false
set_option maxRecDepth 100000
set_option maxHeartbeats 1000000
namespace C9
open PySem PySem.Spec PyProof.Rows L2

/-! ### defs, called where no repr is under way -/
structure FnG (P : Program) (w : World) (K : PySem.W.Frag) (mg : Str → Option Value) (base : Heap) (k : Nat) (f : Addr) (fd : FuncData) (ps : List Str) (sp : Sp) : Prop where
  len : ∀ vs H Q E, sp vs H Q E → vs.length = ps.length
  run : ∀ (A : Around) (outer : List Env) (s : Shared) (H : Hp) (args : Args) (us : List Value) (vs : List V) (Q : VK) (E : XK), A.guards = some [] → Room k A → Env0 P w K mg base A outer s H → BindsTo s fd args (ps.zip us) → Vals vs us → sp vs H Q E →
    codeAny (model P w) A (.call (.ref f) args) (CR CX0 outer P w H s Q E) s
/-- its body keeps its promise -/
theorem fnG_of {P : Program} {w : World} {K : PySem.W.Frag} {mg : Str → Option Value} {base : Heap} {k : Nat} {f : Addr} {fd : FuncData} {x qual : Str} {st : Stmt} {N ps : List Str} {sp : Sp} (F : Fun K x qual st f fd) (S : FnScope N ps (defScope st))
    (len : ∀ vs H Q E, sp vs H Q E → vs.length = ps.length)
    (hbody : ∀ (cdv : Value), fd.code = cdv → (∃ o : Obj, K.lookup f = some o ∧ o.data = .func fd) → ∀ (A : Around) (outer : List Env) (s : Shared) (H : Hp) (vs : List V) (Q : VK) (E : XK), A.guards = some [] → Room k (A.deeper (envOfC qual (defScope st) s.heap.objs.size f cdv)) → sp vs H Q E →
      rdS (cxOf CX0 P w K mg base N qual (defScope st) f cdv A outer s H E).nox (defBody st) { nx := fun _ H' => Q .non H', rt := Q } (start N vs) H) :
    FnG P w K mg base (k + 1) f fd ps sp := by
  obtain ⟨oc, od, kV, doc, pm, an, cdv, ct, osl, rfl, lk, hcd⟩ := F.ex
  refine ⟨len, fun A outer s H args us vs Q E hg hr e0 hb r hsp => ?_⟩
  have hl := len _ _ _ _ hsp
  have KX : K.In s.heap := e0.mod.kin.keeps fun b o e => (e0.bs b o e).1
  have lim : s.heap.NoLimit := e0.mod.nolimit.keeps fun b o e => (e0.bs b o e).1
  refine Att.call_fn KX lim lk hcd hr.depth hb ?_ (fun s1 hin => ?_) S.co S.gen S.kind
  · refine List.all_eq_true.mpr fun y hy => ?_
    obtain ⟨n, v⟩ := y
    rcases S.par n (List.of_mem_zip hy).1 with q | q
    · show ((defScope st).names.lookup n == some .local || _) = true
      rw [q]; rfl
    · show (_ || (defScope st).names.lookup n == some .cell) = true
      rw [q]; rfl
  · have body := (pss_rd.nox).run [] s1 (start N vs) H _ (inv_start S hr.hd e0 hl r hin) (hbody cdv rfl ⟨_, lk, rfl⟩ A outer s H vs Q E hg (hr.deeper _) hsp)
    refine wpAny_mono body (fun fl s' h => ?_) fun e s' h => h
    cases fl with
    | ret u =>
      obtain ⟨v, σ', H', J, rv, q⟩ := h
      exact ⟨v, H', J.os, J.bare, J.base, J.hok, rv, q⟩
    | next =>
      obtain ⟨σ', H', J, q⟩ := h
      exact ⟨V.non, H', J.os, J.bare, J.base, J.hok, rfl, q⟩
    | brk => obtain ⟨_, _, _, q⟩ := h; exact q.elim
    | cont => obtain ⟨_, _, _, q⟩ := h; exact q.elim

/-! ### defs over data -/
/-- with arguments ds it gives d where R ds d -/
def spD (K : PySem.W.Frag) (mg : Str → Option Value) (base : Heap) (R : List PyData → PyData → Prop) : Sp := fun vs H Q _ => TabOk K mg base H ∧ ∃ (G : Hp) (ds : List PyData) (d : PyData), Ex G H ∧ DdAll G vs ds ∧ R ds d ∧ ∀ v G' H', Gr G H G' H' → Dd G' v d → Q v H'
/-- the module's name x holds a def that keeps the promise R -/
def kwName (x : Str) : Bool := x == ("fewest_glasses" : Str) || x == ("some_glasses" : Str) || x == ("fewest_in_turn" : Str) || x == ("turn_tree" : Str)
/-- the defs that are called by keyword -/
def KwB (x : Str) (fd : FuncData) (ps : List Str) : Prop := kwName x = true → ps = ([("number" : Str), ("most" : Str), ("faint" : Str)] : List Str) ∧ ∀ a b c : Value, bindArgs fd ⟨[], [(("faint" : Str), a), (("most" : Str), b), (("number" : Str), c)]⟩ = pure (ps.zip [c, b, a])
structure Def (P : Program) (w : World) (K : PySem.W.Frag) (mg : Str → Option Value) (base : Heap) (k : Nat) (x : Str) (n : Nat) (R : List PyData → PyData → Prop) : Prop where
  ex : ∃ (f : Addr) (fd : FuncData) (ps : List Str), FnG P w K mg base k f fd ps (spD K mg base R) ∧ mg x = some (.ref f) ∧ PySem.W.keepIn K (.ref f) = true ∧ Binds K fd ps [] ∧ ps.length = n ∧ KwB x fd ps
theorem startD {N : List Str} {vs : List V} {ds : List PyData} {G H : Hp} {W : Pw} (tb : TabOk W.K W.mg W.base H) (e : Ex G H) (r : DdAll G vs ds) (h : vs.length ≤ N.length) : RS W ⟨G, H, G⟩ (ds.map Sl.val ++ List.replicate (N.length - ds.length) Sl.no) (start N vs) G H := by
  have hl := dda_len r
  refine ⟨tb, Gr.refl e, Ex.refl _, ?_, fun i x o e1 e2 => ?_, fun i j x y a hij e1 _ m _ _ _ => ?_⟩
  · unfold L2.start
    rw [List.length_append, List.length_append, List.length_map, List.length_map, List.length_replicate, List.length_replicate]
    omega
  · unfold L2.start at e2
    by_cases hi : i < ds.length
    · rw [List.getElem?_append_left (by rw [List.length_map]; exact hi), List.getElem?_map] at e1
      rw [List.getElem?_append_left (by rw [List.length_map]; omega), List.getElem?_map] at e2
      cases q : ds[i]? with
      | none => rw [q] at e1; cases e1
      | some d =>
        rw [q] at e1
        cases e1
        obtain ⟨v, ev, dv⟩ := dda_get r q
        rw [ev] at e2
        cases e2
        exact ⟨v, rfl, dv⟩
    · rw [List.getElem?_append_right (by rw [List.length_map]; omega), List.getElem?_replicate] at e1
      split at e1
      · cases e1; trivial
      · cases e1
  · have nov : ∀ {x : Sl}, x ∈ ds.map Sl.val ++ List.replicate (N.length - ds.length) Sl.no → x.mu = false := fun {x} hx => by
      rcases List.mem_append.mp hx with z | z
      · obtain ⟨d, _, rfl⟩ := List.mem_map.mp z; rfl
      · rw [(List.mem_replicate.mp z).2]; rfl
    rw [nov (List.mem_of_getElem? e1)] at m
    cases m
/-- the rule for a def, its code object told -/
theorem def_ofC {P : Program} {w : World} {K : PySem.W.Frag} {mg : Str → Option Value} {base : Heap} {k : Nat} {f : Addr} {fd : FuncData} {x qual name : Str} {st : Stmt} {N ps : List Str} {R : List PyData → PyData → Prop} (F : Fun K x qual st f fd) (S : FnScope N ps (defScope st))
    (hm : mg name = some (.ref f)) (hb : Binds K fd ps []) (hkw : KwB name fd ps) (len : ∀ ds d, R ds d → ds.length = ps.length)
    (body : ∀ (X : Cx) (cdv : Value), fd.code = cdv → (∃ o : Obj, K.lookup f = some o ∧ o.data = .func fd) → ∀ (A : Around) (outer : List Env) (s : Shared) (H : Hp) (E : XK), X = (cxOf CX0 P w K mg base N qual (defScope st) f cdv A outer s H E).nox → X.A.guards = some [] → Room k X.A → ∀ (ds : List PyData) (d : PyData), R ds d →
      SD X (ds.map Sl.val ++ List.replicate (N.length - ds.length) Sl.no) (defBody st) { nx := fun _ => d = .none, rt := fun _ d' => d' = d }) :
    Def P w K mg base (k + 1) name ps.length R := by
  refine ⟨f, fd, ps, fnG_of F S (fun vs H Q E h => ?_) fun cdv hcd hlk A outer s H vs Q E hg hr h => ?_, hm, F.kp, hb, rfl, hkw⟩
  · obtain ⟨_, G, ds, d, e, r, hR, _⟩ := h
    rw [dda_len r]
    exact len ds d hR
  · obtain ⟨tb, G, ds, d, e, r, hR, q⟩ := h
    have hpl : ps.length ≤ N.length := by
      have := congrArg List.length S.pre
      rw [List.length_take] at this
      omega
    refine body _ cdv hcd hlk A outer s H E rfl hg hr ds d hR ⟨G, H, G⟩ _ G H _ (startD tb e r (by rw [dda_len r, len ds d hR]; exact hpl)) ⟨fun δ σ G' H' hn rs => ?_, fun δ d' v σ G' H' hd rs dv => ?_, fun _ _ _ _ z => z.elim, fun _ _ _ _ z => z.elim⟩
    · rw [hn] at q
      exact q .non G' H' rs.gr .non
    · rw [hd] at dv
      exact q v G' H' rs.gr dv

/-- the rule for a def -/
theorem def_of {P : Program} {w : World} {K : PySem.W.Frag} {mg : Str → Option Value} {base : Heap} {k : Nat} {f : Addr} {fd : FuncData} {x qual name : Str} {st : Stmt} {N ps : List Str} {R : List PyData → PyData → Prop} (F : Fun K x qual st f fd) (S : FnScope N ps (defScope st))
    (hm : mg name = some (.ref f)) (hb : Binds K fd ps []) (hkw : KwB name fd ps) (len : ∀ ds d, R ds d → ds.length = ps.length)
    (body : ∀ (X : Cx) (cdv : Value) (A : Around) (outer : List Env) (s : Shared) (H : Hp) (E : XK), X = (cxOf CX0 P w K mg base N qual (defScope st) f cdv A outer s H E).nox → X.A.guards = some [] → Room k X.A → ∀ (ds : List PyData) (d : PyData), R ds d →
      SD X (ds.map Sl.val ++ List.replicate (N.length - ds.length) Sl.no) (defBody st) { nx := fun _ => d = .none, rt := fun _ d' => d' = d }) :
    Def P w K mg base (k + 1) name ps.length R := def_ofC F S hm hb hkw len fun X cdv _ _ => body X cdv
section
variable {X : Cx} {δ : List Sl} {e : Expr} {es : List Expr} {pos p : Pos}
theorem run_fnG {k : Nat} {f : Addr} {fd : FuncData} {ps : List Str} {sp : Sp} {pins : List (Addr × Obj)} {σ : L2.St} {H : Hp} {s : Shared} {Q : VK} {us ws : List Value} {vs : List V} {kw : List (Str × Value)} (F : FnG X.prog X.w X.K X.mg X.base k f fd ps sp) (hG : X.A.guards = some []) (hr : Room k X.A)
    (hb : BindsTo s fd ⟨us, kw⟩ (ps.zip ws)) (I : Inv X pins σ H s) (r : Vals vs ws) (h : sp vs H Q E0) : wpAny (model X.prog X.w) X.A (call (.ref f) us kw) (EP X pins σ Q) X.xe s := by
  refine wpAny_call (codeAny_mono (F.run X.A X.stack s H ⟨us, kw⟩ ws vs Q E0 hG hr I.env0 hb r h) fun r s' hq => ?_)
  cases r with
  | error e => exact hq.elim
  | ok fl =>
    cases fl with
    | ret u => exact I.after hq
    | next => exact hq.elim
    | brk => exact hq.elim
    | cont => exact hq.elim
/-- f(e, ..) -/
theorem ed_call {k n : Nat} {x : Str} {R : List PyData → PyData → Prop} {ds : List PyData} {d : PyData} (D : Def X.prog X.w X.K X.mg X.base k x n R) (hG : X.A.guards = some []) (hr : Room k X.A) (ha : AD X δ (e :: es) ds) (hR : R ds d) (hg : Gl X x := by rfl)
    (hdb : (x == ("__debug__" : Str)) = false := by decide) (he : starEach (e :: es) X.env = (false, eval e X.env) :: starEach es X.env := by rfl) (hpl : (backTo pos (starEach es X.env)).any (·.1) = false := by rfl) :
    ED X δ (.Call (.Name x p) (e :: es) [] pos) d := fun B σ G H Q rs kk pins s I => by
  obtain ⟨f, fd, ps, F, hm, hk, hb, hn, _⟩ := D.ex
  refine wpAny_Call_Name_kw (ld_glob I hg hm ?_ hdb)
  refine PySem.W.callWith_K (h₀ := X.base) I.ok.mod.kin hk (thn (ha B σ G H (fun vs H1 => spD X.K X.mg X.base R vs H1 Q E0) rs (fun vs G1 H1 g1 d1 => ⟨(rs.grow g1).tab.gr (rs.grow g1).gr, G1, ds, d, g1.gh, d1, hR, fun v G2 H2 g2 d2 => kk v G2 H2 (g1.trans g2) d2⟩) pos pins s I) fun us s1 ⟨vs, H1, I1, r, q⟩ => ⟨I1.kIn, ?_⟩) he hpl
  have hl : us.length = ps.length := by
    rw [← r.length]
    exact F.len _ _ _ _ q
  have hb' := hb s1 us I1.kIn (by rw [List.append_nil]; exact hl)
  rw [List.append_nil] at hb'
  exact run_fnG (vs := vs) (ws := us) (kw := []) F hG hr hb' I1 r q
end
end C9
set_option Elab.async false
set_option linter.all false
set_option maxRecDepth 100000
set_option maxHeartbeats 1000000
namespace C9
open PySem PySem.Spec PyProof.Rows L2

/-! ### what is walked -/
/-- J yields the data ds, one by one, while G0 stands -/
def WalksD (J : It) (G0 : Hp) (ds : List PyData) : Prop := ∀ (i : Nat) (G H : Hp), Ex G0 G → Ex G H → (i = ds.length → J.stop i H) ∧
  ∀ d, ds[i]? = some d → J.go i H ∧ ∀ x H', J.yld i H x H' → ∃ G', Gr G H G' H' ∧ Dd G' x d
def rdI (X : Cx) (tg iter : Expr) : TI := fun σ H R => ∀ (pins : List (Addr × Obj)) (s : Shared), Inv X pins σ H s →
  wpAny (model X.prog X.w) X.A (eval iter X.env) (fun v s1 => wpAny (model X.prog X.w) X.A (pyIter v) (PIE X pins σ tg R) X.xe s1) X.xe s
theorem pi_rd {X : Cx} {tg iter : Expr} : PI X tg iter (rdI X tg iter) := ⟨fun pins s _ _ _ I h => h pins s I⟩
def RDI (W : Pw) (δ : List Sl) (wi : TI) (ds : List PyData) : Prop := ∀ (B : Bs) (σ : L2.St) (G H : Hp) (R : It → Hp → Prop), RS W B δ σ G H → (∀ J G' H', Gr G H G' H' → WalksD J G' ds → R J H') → wi σ H R
def ID (X : Cx) (δ : List Sl) (tg iter : Expr) (ds : List PyData) : Prop := RDI (pw X) δ (rdI X tg iter) ds
theorem ID.of {X : Cx} {δ : List Sl} {tg iter : Expr} {ds : List PyData} {wi : TI} (h : PI X tg iter wi) (r : RDI (pw X) δ wi ds) : ID X δ tg iter ds :=
  fun B σ G H R rs k pins s I => h.run pins s σ H R I (r B σ G H R rs k)
theorem walks_list {K : PySem.W.Frag} {G0 : Hp} {a : Addr} {vs : List V} {ds : List PyData} (h : G0 a = some (.lst vs)) (r : DdAll G0 vs ds) : WalksD (Itl K a) G0 ds := fun i G H e g => by
  have hs : SqL K H a vs := .inl (.inl (g _ _ (e _ _ h)))
  refine ⟨fun z => ⟨vs, hs, by rw [dda_len r, z]; exact Nat.le_refl _⟩, fun d hd => ?_⟩
  obtain ⟨v, ev, dv⟩ := dda_get r hd
  refine ⟨⟨vs, v, hs, ev⟩, fun x H' y => ?_⟩
  obtain ⟨rfl, q⟩ := y
  have q2 := q vs hs
  rw [ev] at q2
  cases q2
  exact ⟨G, Gr.refl g, dd_ex e dv⟩
theorem walks_tup {K : PySem.W.Frag} {G0 : Hp} {a : Addr} {vs : List V} {ds : List PyData} (h : G0 a = some (.tup vs)) (r : DdAll G0 vs ds) : WalksD (Itt K a) G0 ds := fun i G H e g => by
  have hs : SqT K H a vs := .inl (.inl (g _ _ (e _ _ h)))
  refine ⟨fun z => ⟨vs, hs, by rw [dda_len r, z]; exact Nat.le_refl _⟩, fun d hd => ?_⟩
  obtain ⟨v, ev, dv⟩ := dda_get r hd
  refine ⟨⟨vs, v, hs, ev⟩, fun x H' y => ?_⟩
  obtain ⟨rfl, q⟩ := y
  have q2 := q vs hs
  rw [ev] at q2
  cases q2
  exact ⟨G, Gr.refl g, dd_ex e dv⟩
/-- lo, lo + 1, .., n of them -/
def rangeD (lo : Int) (n : Nat) : List PyData := (List.range n).map fun (i : Nat) => PyData.int (lo + (i : Int))
theorem walks_range {G0 : Hp} {lo : Int} {n : Nat} : WalksD (Itr lo n) G0 (rangeD lo n) := fun i G H e g => by
  have hl : (rangeD lo n).length = n := by unfold rangeD; rw [List.length_map, List.length_range]
  refine ⟨fun z => by rw [hl] at z; exact Nat.le_of_eq z.symm, fun d hd => ?_⟩
  have hi : i < n := by rw [← hl]; exact (List.getElem?_eq_some_iff.mp hd).1
  refine ⟨hi, fun x H' y => ?_⟩
  obtain ⟨rfl, rfl⟩ := y
  have hd' : some (PyData.int (lo + (i : Int))) = some d := by
    rw [← hd]
    unfold rangeD
    rw [List.getElem?_map, List.getElem?_range hi]
    rfl
  cases hd'
  exact ⟨G, Gr.refl g, .int _⟩
section
variable {X : Cx} {δ : List Sl} {tg e a b : Expr} {p pos : Pos}
theorem id_list {ds : List PyData} (h : ED X δ e (.list ds)) : ID X δ tg e ds :=
  ID.of (pi_list pe_rd) fun B σ G H R rs k => h B σ G H _ rs fun v G1 H1 g1 d1 => by
    cases d1 with
    | @lst q vs _ h1 r1 => exact ⟨q, rfl, ⟨vs, .inl (.inl (g1.gh _ _ h1))⟩, k _ G1 H1 g1 (walks_list h1 r1)⟩
theorem id_tup {ds : List PyData} (h : ED X δ e (.tuple ds)) : ID X δ tg e ds :=
  ID.of (pi_tup pe_rd) fun B σ G H R rs k => h B σ G H _ rs fun v G1 H1 g1 d1 => by
    cases d1 with
    | @tup q vs _ h1 r1 => exact ⟨q, rfl, ⟨vs, .inl (.inl (g1.gh _ _ h1))⟩, k _ G1 H1 g1 (walks_tup h1 r1)⟩
theorem id_range1 {n : Int} (h0 : -100000 ≤ n) (h1 : n ≤ 100000) (h : ED X δ a (.int n)) (hm : X.mg "range" = none) (hg : Gl X "range" := by rfl) (hs : starEach [a] X.env = [(false, eval a X.env)] := by rfl) :
    ID X δ tg (.Call (.Name "range" p) [a] [] pos) (rangeD 0 n.toNat) :=
  ID.of (pi_range1 hg hm (pa_cons pe_rd pa_nil hs) hs) fun B σ G H R rs k => h B σ G H _ rs fun v G1 H1 g1 d1 => by
    cases d1
    exact ⟨n, rfl, by omega, by omega, k _ G1 H1 g1 walks_range⟩
theorem id_range2 {m n : Int} (h0 : -100000 ≤ m ∧ m ≤ 100000 ∧ -100000 ≤ n ∧ n ≤ 100000) (h : ED X δ a (.int m)) (h' : ED X δ b (.int n)) (hm : X.mg "range" = none) (hg : Gl X "range" := by rfl) (hs : starEach [a, b] X.env = [(false, eval a X.env), (false, eval b X.env)] := by rfl) (hs2 : starEach [b] X.env = [(false, eval b X.env)] := by rfl) :
    ID X δ tg (.Call (.Name "range" p) [a, b] [] pos) (rangeD m (n - m).toNat) :=
  ID.of (pi_range2 hg hm (pa_cons pe_rd (pa_cons pe_rd pa_nil hs2) (by rw [hs, hs2])) hs hs2) fun B σ G H R rs k => h B σ G H _ rs fun v G1 H1 g1 d1 => h' B σ G1 H1 _ (rs.grow g1) fun u G2 H2 g2 d2 => by
    cases d1
    cases d2
    exact ⟨m, n, rfl, ⟨by omega, by omega, by omega, by omega⟩, k _ G2 H2 (g1.trans g2) walks_range⟩
/-- zip(t, u), tuples, walked by a pair -/
theorem id_zipT {xs ys : List PyData} {elts : List Expr} {kk : Nat} {tpos : Pos} (h : ED X δ a (.tuple xs)) (h' : ED X δ b (.tuple ys)) (hl : ys.length ≤ xs.length) (hm : X.mg "zip" = none) (hg : Gl X "zip" := by rfl)
    (hs : starEach [a, b] X.env = (false, eval a X.env) :: starEach [b] X.env := by rfl) (hs2 : starEach [b] X.env = (false, eval b X.env) :: starEach [] X.env := by rfl) (hpl : (backTo pos (starEach [b] X.env)).any (·.1) = false := by rfl) :
    ID X δ (.Tuple elts kk tpos) (.Call (.Name "zip" p) [a, b] [] pos) ((xs.zip ys).map fun q => .tuple [q.1, q.2]) :=
  ID.of (RZ.pi_zipA hg hm (pa_cons pe_rd (pa_cons pe_rd pa_nil hs2) hs) hs hpl) fun B σ G H R rs k => h B σ G H _ rs fun v G1 H1 g1 d1 => h' B σ G1 H1 _ (rs.grow g1) fun u G2 H2 g2 d2 => by
    cases d1 with
    | @tup q vs _ h1 r1 =>
    cases d2 with
    | @tup q' us _ h2 r2 =>
    have h1' := g2.gg _ _ h1
    have r1' := dda_ex g2.gg r1
    refine ⟨q, q', vs, us, rfl, .inr ⟨.inl (.inl (g2.gh _ _ h1')), .inl (.inl (g2.gh _ _ h2)), k _ G2 H2 (g1.trans g2) fun i G' H' e g => ?_⟩⟩
    have hs1 : SqT X.K H' q vs := .inl (.inl (g _ _ (e _ _ h1')))
    have hs2 : SqT X.K H' q' us := .inl (.inl (g _ _ (e _ _ h2)))
    have l1 := dda_len r1
    have l2 := dda_len r2
    refine ⟨fun z => ⟨vs, us, hs1, hs2, .inr (by rw [z, List.length_map, List.length_zip, l2]; omega)⟩, fun d hd => ?_⟩
    rw [List.getElem?_map] at hd
    cases hz : (xs.zip ys)[i]? with
    | none => rw [hz] at hd; cases hd
    | some pr =>
      rw [hz] at hd
      cases hd
      obtain ⟨hx, hy⟩ := List.getElem?_zip_eq_some.mp hz
      obtain ⟨x, ex, dx⟩ := dda_get r1' hx
      obtain ⟨y, ey, dy⟩ := dda_get r2 hy
      refine ⟨⟨vs, us, x, y, hs1, hs2, ex, ey⟩, fun t H2' yy => ?_⟩
      obtain ⟨T, x', y', rfl, nT, rfl, f1, f2⟩ := yy
      have e1 := f1 vs hs1
      rw [ex] at e1
      cases e1
      have e2 := f2 us hs2
      rw [ey] at e2
      cases e2
      have gn := Gr.new (o := .tup [x, y]) g nT
      exact ⟨_, gn, .tup upd_same (.cons (dd_ex (e.trans gn.gg) dx) (.cons (dd_ex (e.trans gn.gg) dy) .nil))⟩
end

/-! ### for -/
section
variable {X : Cx} {δ : List Sl} {iter : Expr} {body rest : List Stmt} {pos : Pos} {E : En} {ds : List PyData}
/-- the loop's frame: g stores a datum as the slots say -/
theorem sd_forG {tg : Expr} {g : TG} (st : PyData → List Sl → List Sl) (hg : PG X tg g) (hst : ∀ (B : Bs) (δ' : List Sl) (σ : L2.St) (G H : Hp) (v : V) (d : PyData) (Q : L2.St → Hp → Prop), d ∈ ds → RS (pw X) B δ' σ G H → Dd G v d → (∀ σ', RS (pw X) B (st d δ') σ' G H → Q σ' H) → g v σ H Q)
    (hi : ID X δ tg iter ds) (I : Nat → List Sl → Prop) (h0 : I 0 δ)
    (hs : ∀ k d δ', ds[k]? = some d → I k δ' → SD X (st d δ') body { nx := I (k + 1), rt := E.rt, bk := fun δ2 => SD X δ2 rest E, ct := I (k + 1) }) (hd : ∀ δ', I ds.length δ' → SD X δ' rest E)
    (hc : X.calm = true := by rfl) (hp : PassesOwn (model X.prog X.w) X.A X.env X.xe := by exact PassesOwn.never) (hf : ∀ x, foldedSetIterable iter X.env x = pure x) : SD X δ (.For tg iter body [] pos :: rest) E :=
  sd_cons (ps_for hp hc pi_rd hg pss_rd hf) fun B σ G H D rs f => hi B σ G H _ rs fun J G1 H1 g1 wk => by
    refine ⟨fun i m σ' H' => i + m = ds.length ∧ ∃ δ' G', I i δ' ∧ RS (pw X) ⟨B.g, B.h, G1⟩ δ' σ' G' H', ⟨ds.length, by omega, δ, G1, h0, (rs.grow g1).lower (Ex.refl _)⟩, ?_⟩
    rintro i m σ' H' ⟨him, δ', G', hI, rs'⟩
    have low : Ex B.m G1 := (rs.grow g1).low
    obtain ⟨w1, w2⟩ := wk i G' H' rs'.low rs'.ex
    by_cases hlt : i < ds.length
    · obtain ⟨d, hd'⟩ : ∃ d, ds[i]? = some d := ⟨_, List.getElem?_eq_getElem hlt⟩
      obtain ⟨go, yl⟩ := w2 d hd'
      refine .inr ⟨go, fun σ2 H2 => ∃ δ2 G2, I (i + 1) δ2 ∧ RS (pw X) ⟨B.g, B.h, G1⟩ δ2 σ2 G2 H2, fun σ2 H2 ⟨δ2, G2, a1, a2⟩ => ⟨m - 1, by omega, by omega, δ2, G2, a1, a2⟩, fun x H2 y => ?_⟩
      obtain ⟨G2, g2, dx⟩ := yl x H2 y
      refine hst _ δ' σ' G2 H2 x d _ (List.mem_of_getElem? hd') (rs'.grow g2) dx fun σ3 rs3 => ?_
      exact hs i d δ' hd' hI _ σ3 G2 H2 _ rs3 ⟨fun δ4 σ4 G4 H4 h r => ⟨δ4, G4, h, r⟩, fun δ4 d4 v4 σ4 G4 H4 h r dv => f.rt δ4 d4 v4 σ4 G4 H4 h (r.lower (low.trans r.low)) dv, fun δ4 σ4 G4 H4 h r => h B σ4 G4 H4 D (r.lower (low.trans r.low)) f, fun δ4 σ4 G4 H4 h r => ⟨δ4, G4, h, r⟩⟩
    · have e : i = ds.length := by omega
      subst e
      exact .inl ⟨w1 rfl, hd δ' hI B σ' G' H' D (rs'.lower (low.trans rs'.low)) f⟩
/-- for x in .. -/
theorem sd_for {j : Nat} {x : Str} {px : Pos} (hi : ID X δ (.Name x px) iter ds) (I : Nat → List Sl → Prop) (h0 : I 0 δ)
    (hs : ∀ k d δ', ds[k]? = some d → I k δ' → SD X (δ'.set j (.val d)) body { nx := I (k + 1), rt := E.rt, bk := fun δ2 => SD X δ2 rest E, ct := I (k + 1) }) (hd : ∀ δ', I ds.length δ' → SD X δ' rest E)
    (hc : X.calm = true := by rfl) (hp : PassesOwn (model X.prog X.w) X.A X.env X.xe := by exact PassesOwn.never) (hN : X.N.Nodup := by assumption) (hj : X.N[j]? = some x := by rfl) (hx : Loc X.env.scope x := by first | exact Or.inl rfl | exact Or.inr rfl)
    (hff : X.fn x = true ∨ X.env.scope.names.lookup x = some .local := by first | exact .inl rfl | exact .inr rfl) (hf : ∀ x, foldedSetIterable iter X.env x = pure x := by intro _; rfl) : SD X δ (.For (.Name x px) iter body [] pos :: rest) E :=
  sd_forG (fun d δ' => δ'.set j (.val d)) (pg_name hN hj hx hff) (fun B δ' σ G H v d Q _ rs dv k => k _ (rs.set dv)) hi I h0 hs hd hc hp hf
/-- for x, y in .., pairs -/
theorem sd_for2 {j l : Nat} {x y : Str} {px py tp : Pos} {kk : Nat} {α : Type} {xs : List α} {f1 f2 : α → PyData} (hi : ID X δ (.Tuple [.Name x px, .Name y py] kk tp) iter (xs.map fun q => .tuple [f1 q, f2 q])) (I : Nat → List Sl → Prop) (h0 : I 0 δ)
    (hs : ∀ k q δ', xs[k]? = some q → I k δ' → SD X ((δ'.set j (.val (f1 q))).set l (.val (f2 q))) body { nx := I (k + 1), rt := E.rt, bk := fun δ2 => SD X δ2 rest E, ct := I (k + 1) }) (hd : ∀ δ', I xs.length δ' → SD X δ' rest E)
    (hc : X.calm = true := by rfl) (hp : PassesOwn (model X.prog X.w) X.A X.env X.xe := by exact PassesOwn.never) (hN : X.N.Nodup := by assumption) (hj : X.N[j]? = some x := by rfl) (hl : X.N[l]? = some y := by rfl) (hx : Loc X.env.scope x := by first | exact Or.inl rfl | exact Or.inr rfl) (hy : Loc X.env.scope y := by first | exact Or.inl rfl | exact Or.inr rfl)
    (hfx : X.fn x = true ∨ X.env.scope.names.lookup x = some .local := by first | exact .inl rfl | exact .inr rfl) (hfy : X.fn y = true ∨ X.env.scope.names.lookup y = some .local := by first | exact .inl rfl | exact .inr rfl)
    (hn : (assignEach [.Name x px, .Name y py] X.env).length = 2 := by rfl) (hst : (assignEach [.Name x px, .Name y py] X.env).findIdx? (·.1) = none := by rfl)
    (a1 : (assignEach [.Name x px, .Name y py] X.env).map (·.2) = assign (.Name x px) X.env :: (assignEach [.Name y py] X.env).map (·.2) := by rfl) (a2 : (assignEach [.Name y py] X.env).map (·.2) = assign (.Name y py) X.env :: (assignEach [] X.env).map (·.2) := by rfl)
    (hf : ∀ x, foldedSetIterable iter X.env x = pure x := by intro _; rfl) : SD X δ (.For (.Tuple [.Name x px, .Name y py] kk tp) iter body [] pos :: rest) E := by
  refine sd_forG (fun d δ' => match d with | .tuple [d1, d2] => (δ'.set j (.val d1)).set l (.val d2) | _ => δ') (pg_tup (n := 2) hc (pgs_cons (pg_name hN hj hx hfx) (pgs_cons (pg_name hN hl hy hfy) pgs_nil a2) a1) hn hst) (fun B δ' σ G H v d Q hm rs dv k => ?_) hi I h0 (fun k d δ' hk hI => ?_) (fun δ' h => hd δ' (by rw [List.length_map] at h; exact h)) hc hp hf
  · obtain ⟨q, _, rfl⟩ := List.mem_map.mp hm
    cases dv with
    | @tup p us _ h r =>
    cases r with
    | @cons v1 _ _ _ r1 r =>
    cases r with
    | @cons v2 _ _ _ r2 r =>
    cases r
    exact ⟨p, [v1, v2], rfl, .inl (.inl (rs.ex _ _ h)), rfl, v1, [v2], rfl, v2, [], rfl, rfl, k _ ((rs.set r1).set r2)⟩
  · rw [List.getElem?_map] at hk
    cases hq : xs[k]? with
    | none => rw [hq] at hk; cases hk
    | some q =>
      rw [hq] at hk
      cases hk
      exact hs k q δ' hq hI
end
end C9
set_option Elab.async false
set_option linter.all false
set_option maxRecDepth 100000
set_option maxHeartbeats 1000000
namespace C9
open PySem PySem.Spec PyProof.Rows L2

/-! ### comprehensions -/
/-- the block's names are forgotten -/
def wipeD (δ : List Sl) : List Nat → List Sl
  | [] => δ
  | v :: vs => (wipeD δ vs).set v .no
theorem wipeD_length (δ : List Sl) : ∀ vs : List Nat, (wipeD δ vs).length = δ.length
  | [] => rfl
  | v :: vs => by unfold wipeD; rw [List.length_set, wipeD_length δ vs]
theorem RS.no {W : Pw} {B : Bs} {δ : List Sl} {σ : L2.St} {G H : Hp} {i : Nat} {o : Option V} (r : RS W B δ σ G H) : RS W B (δ.set i .no) (σ.set i o) G H :=
  r.put r.gr (Ex.refl _) (fun _ _ _ _ _ _ q => q) trivial (fun m => by cases m)
theorem RS.wipe {W : Pw} {B : Bs} {δ : List Sl} {σ : L2.St} {G H : Hp} (r : RS W B δ σ G H) : ∀ vs : List Nat, RS W B (wipeD δ vs) (wipe σ vs) G H
  | [] => r
  | v :: vs => (RS.wipe r vs).no
theorem wipe_self {σ : L2.St} {j : Nat} {x : Option V} : ∀ {vs : List Nat}, j ∈ vs → wipe (σ.set j x) vs = wipe σ vs
  | v :: vs, h => by
    unfold wipe
    by_cases hj : j ∈ vs
    · rw [wipe_self hj]
    · have e : j = v := by
        rcases List.mem_cons.mp h with z | z
        · exact z
        · exact absurd z hj
      subst e
      have comm : ∀ vs : List Nat, j ∉ vs → wipe (σ.set j x) vs = (wipe σ vs).set j x := by
        intro vs
        induction vs with
        | nil => intro _; rfl
        | cons u us ih =>
          intro hn
          unfold wipe
          rw [ih (fun z => hn (List.mem_cons_of_mem _ z)), List.set_comm]
          exact fun z => hn (by rw [z]; exact List.mem_cons_self)
      rw [comm vs hj, List.set_set]
theorem wipe_wipe {σ : L2.St} : ∀ {us vs : List Nat}, (∀ i ∈ us, i ∈ vs) → wipe (wipe σ us) vs = wipe σ vs
  | [], _, _ => rfl
  | u :: us, vs, h => by
    show wipe ((wipe σ us).set u none) vs = _
    rw [wipe_self (h u List.mem_cons_self), wipe_wipe fun i hi => h i (List.mem_cons_of_mem _ hi)]
theorem wipe_set {σ : L2.St} {j : Nat} {x : Option V} {vs : List Nat} (h : j ∈ vs) : wipe ((wipe σ vs).set j x) vs = wipe σ vs := by
  rw [wipe_self h, wipe_wipe fun _ z => z]

section
variable {X : Cx} {δ : List Sl} {elt iter : Expr} {scope : Scope} {pos : Pos}
/-- an expression, a test in any block of the comprehension -/
def bE (X : Cx) (scope : Scope) (e : Expr) : TE := fun σ H Q => ∀ (s : Shared) (H0 : Hp) (C : Addr) (cl : List (Str × Addr)) (fp : List Addr), rd (X.blk s H0 scope (compEnvC scope cl C X.env) fp) e σ H Q
def bT (X : Cx) (scope : Scope) (e : Expr) : TT := fun σ H Q => ∀ (s : Shared) (H0 : Hp) (C : Addr) (cl : List (Str × Addr)) (fp : List Addr), rdT (X.blk s H0 scope (compEnvC scope cl C X.env) fp) e σ H Q
theorem be_run (e : Expr) : ∀ (s : Shared) (H : Hp) (C : Addr) (cl : List (Str × Addr)) (fp : List Addr), PE (X.blk s H scope (compEnvC scope cl C X.env) fp) e (bE X scope e) :=
  fun s H C cl fp => ⟨fun pins s' σ H' Q I h => h s H C cl fp pins s' I⟩
theorem bt_run (e : Expr) : ∀ (s : Shared) (H : Hp) (C : Addr) (cl : List (Str × Addr)) (fp : List Addr), PT (X.blk s H scope (compEnvC scope cl C X.env) fp) e (bT X scope e) :=
  fun s H C cl fp => ⟨fun pins s' σ H' Q I h => h s H C cl fp pins s' I⟩
/-- in every block -/
def bED (X : Cx) (scope : Scope) (δ : List Sl) (e : Expr) (d : PyData) : Prop := ∀ (s : Shared) (H : Hp) (C : Addr) (cl : List (Str × Addr)) (fp : List Addr), ED (X.blk s H scope (compEnvC scope cl C X.env) fp) δ e d
def bTD (X : Cx) (scope : Scope) (δ : List Sl) (e : Expr) (b : Bool) : Prop := ∀ (s : Shared) (H : Hp) (C : Addr) (cl : List (Str × Addr)) (fp : List Addr), TD (X.blk s H scope (compEnvC scope cl C X.env) fp) δ e b

/-- one clause: the test's reading tt, the target's g; xs as data enc; what is kept, what is made of it -/
theorem lc_core9 {α : Type} {wi : TI} {g : TG} {tt : TT} {vs : List Nat} {e : Expr} (xs : List α) (enc : α → PyData) (p : α → Bool) (r : α → PyData) (st : α → List Sl → List Sl)
    (hi : RDI (pw X) δ wi (xs.map enc)) (hz : xs.length ≤ 100000)
    (hst : ∀ (B : Bs) (σ : L2.St) (G H : Hp) (v : V) (a : α) (Q : L2.St → Hp → Prop), a ∈ xs → RS (pw X) B (wipeD δ vs) (wipe σ vs) G H → Dd G v (enc a) → (∀ σ', wipe σ' vs = wipe σ vs → RS (pw X) B (st a (wipeD δ vs)) σ' G H → Q σ' H) → g v (wipe σ vs) H Q)
    (ht : ∀ a ∈ xs, RDT (pw X) (st a (wipeD δ vs)) tt (p a)) (he : ∀ a ∈ xs, p a = true → bED X scope (st a (wipeD δ vs)) e (r a)) :
    RDL (pw X) δ (tLc wi g tt (bE X scope e) vs) ((xs.filter p).map r) := fun B σ G H Q rs k => hi B σ G H _ rs fun J G1 H1 g1 wk => fun D nD => by
  have rs1 := rs.grow g1
  have gD : G1 D = none := g1.gh.free nD
  -- what stands at turn i
  refine ⟨fun i m H' => i + m = xs.length ∧ ∃ G' acc, Gr G1 H1 G' H' ∧ G' D = none ∧ H' D = some (.lst acc) ∧ DdAll G' acc (((xs.take i).filter p).map r),
    ⟨xs.length, by omega, G1, [], Gr.raw g1.gh nD, gD, upd_same, by rw [List.take_zero]; exact .nil⟩, ?_⟩
  rintro i m H' ⟨him, G', acc, g2, g2D, h2D, da⟩
  have rs2 := rs1.grow g2
  obtain ⟨w1, w2⟩ := wk i G' H' g2.gg g2.gh
  by_cases hlt : i < xs.length
  · have hx : xs[i]? = some xs[i] := List.getElem?_eq_getElem hlt
    have hm : xs[i] ∈ xs := List.getElem_mem hlt
    have etake : xs.take (i + 1) = xs.take i ++ [xs[i]] := by rw [List.take_add_one, hx]; rfl
    obtain ⟨go, yl⟩ := w2 (enc xs[i]) (by rw [List.getElem?_map, hx]; rfl)
    refine .inr ⟨go, fun H'' => ∃ G'' acc', Gr G1 H1 G'' H'' ∧ G'' D = none ∧ H'' D = some (.lst acc') ∧ DdAll G'' acc' (((xs.take (i + 1)).filter p).map r), fun H'' ⟨G'', acc', q⟩ => ⟨m - 1, by omega, by omega, G'', acc', q⟩, fun x H3 y => ?_⟩
    obtain ⟨G3, g3, dx⟩ := yl x H3 y
    have rs3 := (rs2.grow g3).wipe vs
    have g3D : G3 D = none := g3.ap D (by rw [h2D]; simp) g2D
    refine hst B σ G3 H3 x xs[i] _ hm rs3 dx fun σ4 hw rs4 => ⟨hw, ht _ hm B σ4 G3 H3 _ rs4 fun G5 H5 g5 => ?_⟩
    have g5D : G5 D = none := g5.ap D (by rw [g3.hh _ _ h2D]; simp) g3D
    have h5D : H5 D = some (.lst acc) := g5.hh _ _ (g3.hh _ _ h2D)
    cases hp : p xs[i] with
    | false =>
      rw [if_neg Bool.false_ne_true]
      refine ⟨G5, acc, (g2.trans g3).trans g5, g5D, h5D, ?_⟩
      rw [etake, List.filter_append, List.filter_cons_of_neg (by rw [hp]; exact Bool.false_ne_true), List.filter_nil, List.append_nil]
      exact dda_ex (g3.gg.trans g5.gg) da
    | true =>
      rw [if_pos rfl]
      intro s0 H0 C cl fp
      refine he _ hm hp s0 H0 C cl fp B σ4 G5 H5 _ (rs4.grow g5) fun v G6 H6 g6 dv => ?_
      have g6D : G6 D = none := g6.ap D (by rw [h5D]; simp) g5D
      have h6D : H6 D = some (.lst acc) := g6.hh _ _ h5D
      have lacc := dda_len da
      have lf : (((xs.take i).filter p).map r).length ≤ i := by
        rw [List.length_map]
        refine Nat.le_trans (List.length_filter_le _ _) ?_
        rw [List.length_take]
        exact Nat.min_le_left _ _
      have gAll := ((g2.trans g3).trans g5).trans g6
      refine ⟨acc, h6D, Nat.lt_of_lt_of_le (by omega : acc.length < 100000) (by decide), G6, acc ++ [v], ⟨gAll.gg, fun a o q => ?_, fun a o q => ?_, gAll.ap, fun t => (gAll.tb t).lst h6D⟩, g6D, upd_same, ?_⟩
      · rw [upd_ne (ne_of_none q nD)]
        exact gAll.hh a o q
      · rw [upd_ne (ne_of_none q g6D)]
        exact g6.gh a o q
      · rw [etake, List.filter_append, List.filter_cons_of_pos hp, List.filter_nil, List.map_append]
        exact dda_app (dda_ex ((g3.gg.trans g5.gg).trans g6.gg) da) (.cons dv .nil)
  · have e : i = xs.length := by omega
    subst e
    refine .inl ⟨w1 (by rw [List.length_map]), k D acc G' H' (g1.trans g2) (g1.hh.free nD) g2D h2D ?_⟩
    rw [List.take_length] at da
    exact da
theorem rdt_yes : RDT (pw X) δ tYes true := fun B σ G H Q rs k => k G H (Gr.refl rs.ex)
theorem rdt_b {c : Expr} {b : Bool} (h : bTD X scope δ c b) : RDT (pw X) δ (bT X scope c) b := fun B σ G H Q rs k s H0 C cl fp => h s H0 C cl fp B σ G H Q rs k
/-- the block's scope, looked at -/
theorem blk9 {N : List Str} {sc : Scope} {own : List (Str × Nat)} (h : blkC N sc scope own = true) (hN : X.N = N) (hs : X.env.scope = sc) : BlkOk X.N X.env.scope scope own := by
  rw [hN, hs]
  exact blkOk_by h
/-- [elt for x in iter] -/
theorem ld_lc {α : Type} {x : Str} {px : Pos} (j : Nat) (N : List Str) (sc : Scope) (own : List (Str × Nat)) (xs : List α) (enc r : α → PyData) (hi : ID X δ (.Name x px) iter (xs.map enc)) (hz : xs.length ≤ 100000) (he : ∀ a ∈ xs, bED X scope ((wipeD δ (own.map (·.2))).set j (.val (enc a))) elt (r a))
    (hc : X.calm = true := by rfl) (hN : X.N.Nodup := by assumption) (ok : blkC N sc scope own = true := by decide +kernel) (eN : X.N = N := by rfl) (es : X.env.scope = sc := by rfl) (hj : j ∈ own.map (·.2) := by decide)
    (hg : ∀ (s : Shared) (H : Hp) (C : Addr) (cl : List (Str × Addr)) (fp : List Addr), PG (X.blk s H scope (compEnvC scope cl C X.env) fp) (.Name x px) (gName j) := by exact fun _ _ _ _ _ => pg_name (by assumption) rfl (Or.inl rfl))
    (hs : ∀ x, foldedSetIterable iter X.env x = pure x := by intro _; rfl) : LD X δ (.ListComp elt [⟨.Name x px, iter, [], 0⟩] scope pos) (xs.map r) := by
  have q := lc_core9 (X := X) (scope := scope) (e := elt) (tt := tYes) (wi := rdI X (.Name x px) iter) (g := gName j) (vs := own.map (·.2)) xs enc (fun _ => true) r (fun a δ' => δ'.set j (.val (enc a))) hi hz
    (fun B σ G H v a Q _ rs dv k => k _ (wipe_set hj) (rs.set dv)) (fun _ _ => rdt_yes) (fun a ha _ => he a ha)
  have ef : xs.filter (fun _ => true) = xs := List.filter_eq_self.mpr fun _ _ => rfl
  rw [ef] at q
  exact LD.of (pe_lc hc hN pi_rd (blk9 ok eN es) hg (fun _ _ _ _ _ => pts_nil) (be_run elt) hs) q
/-- [elt for x in iter if test] -/
theorem ld_lcF {α : Type} {x : Str} {px : Pos} {c : Expr} (j : Nat) (N : List Str) (sc : Scope) (own : List (Str × Nat)) (xs : List α) (enc : α → PyData) (p : α → Bool) (r : α → PyData) (hi : ID X δ (.Name x px) iter (xs.map enc)) (hz : xs.length ≤ 100000) (ht : ∀ a ∈ xs, bTD X scope ((wipeD δ (own.map (·.2))).set j (.val (enc a))) c (p a))
    (he : ∀ a ∈ xs, p a = true → bED X scope ((wipeD δ (own.map (·.2))).set j (.val (enc a))) elt (r a))
    (hc : X.calm = true := by rfl) (hN : X.N.Nodup := by assumption) (ok : blkC N sc scope own = true := by decide +kernel) (eN : X.N = N := by rfl) (es : X.env.scope = sc := by rfl) (hj : j ∈ own.map (·.2) := by decide)
    (hg : ∀ (s : Shared) (H : Hp) (C : Addr) (cl : List (Str × Addr)) (fp : List Addr), PG (X.blk s H scope (compEnvC scope cl C X.env) fp) (.Name x px) (gName j) := by exact fun _ _ _ _ _ => pg_name (by assumption) rfl (Or.inl rfl))
    (hs : ∀ x, foldedSetIterable iter X.env x = pure x := by intro _; rfl) : LD X δ (.ListComp elt [⟨.Name x px, iter, [c], 0⟩] scope pos) ((xs.filter p).map r) :=
  LD.of (pe_lc hc hN pi_rd (blk9 ok eN es) hg (fun s H C cl fp => pts_one (bt_run c s H C cl fp)) (be_run elt) hs) (lc_core9 (X := X) (scope := scope) (e := elt) (tt := bT X scope c) (wi := rdI X (.Name x px) iter) (g := gName j) (vs := own.map (·.2)) xs enc p r (fun a δ' => δ'.set j (.val (enc a))) hi hz
    (fun B σ G H v a Q _ rs dv k => k _ (wipe_set hj) (rs.set dv)) (fun a ha => rdt_b (ht a ha)) he)
/-- [elt for x, y in iter] -/
theorem ld_lcP {α : Type} {x y : Str} {px py tp : Pos} {kk : Nat} (j l : Nat) (N : List Str) (sc : Scope) (own : List (Str × Nat)) (xs : List α) (f1 f2 r : α → PyData) (hi : ID X δ (.Tuple [.Name x px, .Name y py] kk tp) iter (xs.map fun a => .tuple [f1 a, f2 a])) (hz : xs.length ≤ 100000)
    (he : ∀ a ∈ xs, bED X scope (((wipeD δ (own.map (·.2))).set j (.val (f1 a))).set l (.val (f2 a))) elt (r a))
    (hc : X.calm = true := by rfl) (hN : X.N.Nodup := by assumption) (ok : blkC N sc scope own = true := by decide +kernel) (eN : X.N = N := by rfl) (es : X.env.scope = sc := by rfl) (hj : j ∈ own.map (·.2) := by decide) (hl : l ∈ own.map (·.2) := by decide)
    (hg : ∀ (s : Shared) (H : Hp) (C : Addr) (cl : List (Str × Addr)) (fp : List Addr), PG (X.blk s H scope (compEnvC scope cl C X.env) fp) (.Tuple [.Name x px, .Name y py] kk tp) (gTup X.K 2 (gCons (gName j) (gCons (gName l) gNil))) := by
      exact fun _ _ _ _ _ => pg_tup rfl (pgs_cons (pg_name (by assumption) rfl (Or.inl rfl)) (pgs_cons (pg_name (by assumption) rfl (Or.inl rfl)) pgs_nil)))
    (hs : ∀ x, foldedSetIterable iter X.env x = pure x := by intro _; rfl) : LD X δ (.ListComp elt [⟨.Tuple [.Name x px, .Name y py] kk tp, iter, [], 0⟩] scope pos) (xs.map r) := by
  have q := lc_core9 (X := X) (scope := scope) (e := elt) (tt := tYes) (wi := rdI X (.Tuple [.Name x px, .Name y py] kk tp) iter) (g := gTup X.K 2 (gCons (gName j) (gCons (gName l) gNil))) (vs := own.map (·.2)) xs (fun a => .tuple [f1 a, f2 a]) (fun _ => true) r (fun a δ' => (δ'.set j (.val (f1 a))).set l (.val (f2 a))) hi hz
    (fun B σ G H v a Q _ rs dv k => by
      cases dv with
      | @tup p us _ h r =>
      cases r with
      | @cons v1 _ _ _ r1 r =>
      cases r with
      | @cons v2 _ _ _ r2 r =>
      cases r
      refine ⟨p, [v1, v2], rfl, .inl (.inl (rs.ex _ _ h)), rfl, v1, [v2], rfl, v2, [], rfl, rfl, k _ ?_ ((rs.set r1).set r2)⟩
      rw [wipe_self hl, wipe_set hj]) (fun _ _ => rdt_yes) (fun a ha _ => he a ha)
  have ef : xs.filter (fun _ => true) = xs := List.filter_eq_self.mpr fun _ _ => rfl
  rw [ef] at q
  exact LD.of (pe_lc hc hN pi_rd (blk9 ok eN es) hg (fun _ _ _ _ _ => pts_nil) (be_run elt) hs) q
/-! ### in short -/
theorem ev {d : PyData} {x : Str} (i : Nat) (hd : δ[i]? = some (.val d) := by rfl) (hN : X.N[i]? = some x := by rfl) (hv : Vis X.env.scope x := by first | exact Or.inl rfl | exact Or.inr (Or.inl rfl) | exact Or.inr (Or.inr rfl))
    (h1 : (x == ("__debug__" : Str)) = false := by decide) (h2 : (x == ("__classdict__" : Str)) = false := by decide) : ED X δ (.Name x pos) d := ed_var hd hN hv h1 h2
end
end C9
set_option Elab.async false
set_option linter.all false
set_option maxRecDepth 100000
set_option maxHeartbeats 1000000
namespace C9
open PySem PySem.Spec PyProof.Rows L2
section
variable {X : Cx} {δ : List Sl} {elt iter : Expr} {scope : Scope} {pos : Pos} {rest : List Stmt} {E : En}
theorem sd_asgR {st : Stmt} {i : Nat} {t : TE} {ds : List PyData} (h : PS X st (tAsg t (gName i))) (r : RDL (pw X) δ t ds) (k : SD X (δ.set i (.val (.list ds))) rest E) : SD X δ (st :: rest) E :=
  sd_cons h fun B σ G H D rs f => r.rd B σ G H _ rs fun v G1 H1 g1 d1 => k B _ G1 H1 D ((rs.grow g1).set d1) f
/-- y = [elt for x in iter], y a plain local -/
theorem sd_setLc {α : Type} {x y : Str} {px py spos : Pos} (i j : Nat) (N : List Str) (sc : Scope) (own : List (Str × Nat)) (xs : List α) (enc r : α → PyData) (hi : ID X δ (.Name x px) iter (xs.map enc)) (hz : xs.length ≤ 100000) (he : ∀ a ∈ xs, bED X scope ((wipeD δ (own.map (·.2))).set j (.val (enc a))) elt (r a))
    (k : SD X (δ.set i (.val (.list (xs.map r)))) rest E)
    (hc : X.calm = true := by rfl) (hN : X.N.Nodup := by assumption) (ok : blkC N sc scope own = true := by decide +kernel) (eN : X.N = N := by rfl) (es : X.env.scope = sc := by rfl) (hj : j ∈ own.map (·.2) := by decide)
    (hy : X.N[i]? = some y := by rfl) (hyl : X.env.scope.names.lookup y = some .local := by rfl) (hsw : swapsWith (.ListComp elt [⟨.Name x px, iter, [], 0⟩] scope pos) (some (.Name y py)) spos.line X.env = pure true := by exact sw_true rfl rfl rfl (by decide +kernel))
    (hg : ∀ (s : Shared) (H : Hp) (C : Addr) (cl : List (Str × Addr)) (fp : List Addr), PG (X.blk s H scope (compEnvC scope cl C X.env) fp) (.Name x px) (gName j) := by exact fun _ _ _ _ _ => pg_name (by assumption) rfl (Or.inl rfl))
    (hs : ∀ x, foldedSetIterable iter X.env x = pure x := by intro _; rfl) : SD X δ (.Assign [.Name y py] (.ListComp elt [⟨.Name x px, iter, [], 0⟩] scope pos) spos :: rest) E := by
  have q := lc_core9 (X := X) (scope := scope) (e := elt) (tt := tYes) (wi := rdI X (.Name x px) iter) (g := gName j) (vs := own.map (·.2)) xs enc (fun _ => true) r (fun a δ' => δ'.set j (.val (enc a))) hi hz
    (fun B σ G H v a Q _ rs dv k => k _ (wipe_set hj) (rs.set dv)) (fun _ _ => rdt_yes) (fun a ha _ => he a ha)
  have ef : xs.filter (fun _ => true) = xs := List.filter_eq_self.mpr fun _ _ => rfl
  rw [ef] at q
  exact sd_asgR (ps_setLc hc hN hy hyl hsw pi_rd (blk9 ok eN es) hg (fun _ _ _ _ _ => pts_nil) (be_run elt) hs) q k
/-- y = [elt for x in iter if c] -/
theorem sd_setLcF {α : Type} {x y : Str} {px py spos : Pos} {c : Expr} (i j : Nat) (N : List Str) (sc : Scope) (own : List (Str × Nat)) (xs : List α) (enc : α → PyData) (p : α → Bool) (r : α → PyData) (hi : ID X δ (.Name x px) iter (xs.map enc)) (hz : xs.length ≤ 100000) (ht : ∀ a ∈ xs, bTD X scope ((wipeD δ (own.map (·.2))).set j (.val (enc a))) c (p a))
    (he : ∀ a ∈ xs, p a = true → bED X scope ((wipeD δ (own.map (·.2))).set j (.val (enc a))) elt (r a)) (k : SD X (δ.set i (.val (.list ((xs.filter p).map r)))) rest E)
    (hc : X.calm = true := by rfl) (hN : X.N.Nodup := by assumption) (ok : blkC N sc scope own = true := by decide +kernel) (eN : X.N = N := by rfl) (es : X.env.scope = sc := by rfl) (hj : j ∈ own.map (·.2) := by decide)
    (hy : X.N[i]? = some y := by rfl) (hyl : X.env.scope.names.lookup y = some .local := by rfl) (hsw : swapsWith (.ListComp elt [⟨.Name x px, iter, [c], 0⟩] scope pos) (some (.Name y py)) spos.line X.env = pure true := by exact sw_true rfl rfl rfl (by decide +kernel))
    (hg : ∀ (s : Shared) (H : Hp) (C : Addr) (cl : List (Str × Addr)) (fp : List Addr), PG (X.blk s H scope (compEnvC scope cl C X.env) fp) (.Name x px) (gName j) := by exact fun _ _ _ _ _ => pg_name (by assumption) rfl (Or.inl rfl))
    (hs : ∀ x, foldedSetIterable iter X.env x = pure x := by intro _; rfl) : SD X δ (.Assign [.Name y py] (.ListComp elt [⟨.Name x px, iter, [c], 0⟩] scope pos) spos :: rest) E :=
  sd_asgR (ps_setLc hc hN hy hyl hsw pi_rd (blk9 ok eN es) hg (fun s H C cl fp => pts_one (bt_run c s H C cl fp)) (be_run elt) hs) (lc_core9 (X := X) (scope := scope) (e := elt) (tt := bT X scope c) (wi := rdI X (.Name x px) iter) (g := gName j) (vs := own.map (·.2)) xs enc p r (fun a δ' => δ'.set j (.val (enc a))) hi hz
    (fun B σ G H v a Q _ rs dv k => k _ (wipe_set hj) (rs.set dv)) (fun a ha => rdt_b (ht a ha)) he) k

/-! ### two clauses: the inner one over ys, names at j, l -/
def bI (X : Cx) (scope : Scope) (tg it : Expr) : TI := fun σ H R => ∀ (s : Shared) (H0 : Hp) (C : Addr) (cl : List (Str × Addr)) (fp : List Addr), rdI (X.blk s H0 scope (compEnvC scope cl C X.env) fp) tg it σ H R
theorem bi_run (tg it : Expr) : ∀ (s : Shared) (H : Hp) (C : Addr) (cl : List (Str × Addr)) (fp : List Addr), PI (X.blk s H scope (compEnvC scope cl C X.env) fp) tg it (bI X scope tg it) :=
  fun s H C cl fp => ⟨fun pins s' σ H' Q I h => h s H C cl fp pins s' I⟩
def bID (X : Cx) (scope : Scope) (δ : List Sl) (tg it : Expr) (ds : List PyData) : Prop := ∀ (s : Shared) (H : Hp) (C : Addr) (cl : List (Str × Addr)) (fp : List Addr), ID (X.blk s H scope (compEnvC scope cl C X.env) fp) δ tg it ds
theorem lc2_core9 {α β : Type} {wi : TI} {vs : List Nat} {e c tg1 it1 : Expr} {j l : Nat} (xs : List α) (ys : List β) (enc : α → PyData) (enc1 : β → PyData) (p : α → β → Bool) (r : α → β → PyData) (hj : j ∈ vs) (hl : l ∈ vs) (hjl : j ≠ l)
    (hi : RDI (pw X) δ wi (xs.map enc)) (hz : xs.length * ys.length ≤ 100000)
    (hi1 : ∀ a ∈ xs, bID X scope ((wipeD δ vs).set j (.val (enc a))) tg1 it1 (ys.map enc1))
    (ht : ∀ a ∈ xs, ∀ b ∈ ys, bTD X scope (((wipeD δ vs).set j (.val (enc a))).set l (.val (enc1 b))) c (p a b)) (he : ∀ a ∈ xs, ∀ b ∈ ys, p a b = true → bED X scope (((wipeD δ vs).set j (.val (enc a))).set l (.val (enc1 b))) e (r a b)) :
    RDL (pw X) δ (tLc2 wi (gName j) tYes (bI X scope tg1 it1) (gName l) (bT X scope c) (bE X scope e) vs [l]) (xs.flatMap fun a => (ys.filter (p a)).map (r a)) := fun B σ G H Q rs k => hi B σ G H _ rs fun J G1 H1 g1 wk => fun D nD => by
  have rs1 := rs.grow g1
  have gD : G1 D = none := g1.gh.free nD
  have bound : ∀ (i : Nat), ((xs.take i).flatMap fun a => (ys.filter (p a)).map (r a)).length ≤ i * ys.length := by
    intro i
    induction i with
    | zero => simp
    | succ i ih =>
      rw [List.take_add_one, List.flatMap_append, List.length_append, Nat.succ_mul]
      refine Nat.add_le_add ih ?_
      cases xs[i]? with
      | none => exact Nat.zero_le _
      | some a =>
        show (List.flatMap (fun a => (ys.filter (p a)).map (r a)) [a]).length ≤ _
        rw [List.flatMap_cons, List.flatMap_nil, List.append_nil, List.length_map]
        exact List.length_filter_le _ _
  refine ⟨fun i m H' => i + m = xs.length ∧ ∃ G' acc, Gr G1 H1 G' H' ∧ G' D = none ∧ H' D = some (.lst acc) ∧ DdAll G' acc ((xs.take i).flatMap fun a => (ys.filter (p a)).map (r a)),
    ⟨xs.length, by omega, G1, [], Gr.raw g1.gh nD, gD, upd_same, by rw [List.take_zero]; exact .nil⟩, ?_⟩
  rintro i m H' ⟨him, G', acc, g2, g2D, h2D, da⟩
  have rs2 := rs1.grow g2
  obtain ⟨w1, w2⟩ := wk i G' H' g2.gg g2.gh
  by_cases hlt : i < xs.length
  · have hx : xs[i]? = some xs[i] := List.getElem?_eq_getElem hlt
    have hm : xs[i] ∈ xs := List.getElem_mem hlt
    have etake : xs.take (i + 1) = xs.take i ++ [xs[i]] := by rw [List.take_add_one, hx]; rfl
    obtain ⟨go, yl⟩ := w2 (enc xs[i]) (by rw [List.getElem?_map, hx]; rfl)
    refine .inr ⟨go, fun H'' => ∃ G'' acc', Gr G1 H1 G'' H'' ∧ G'' D = none ∧ H'' D = some (.lst acc') ∧ DdAll G'' acc' ((xs.take (i + 1)).flatMap fun a => (ys.filter (p a)).map (r a)), fun H'' ⟨G'', acc', q⟩ => ⟨m - 1, by omega, by omega, G'', acc', q⟩, fun x H3 y => ?_⟩
    obtain ⟨G3, g3, dx⟩ := yl x H3 y
    have rs3 := ((rs2.grow g3).wipe vs).set (i := j) dx
    have g3D : G3 D = none := g3.ap D (by rw [h2D]; simp) g2D
    have h3D : H3 D = some (.lst acc) := g3.hh _ _ h2D
    refine ⟨wipe_set hj, ?_⟩
    show bI X scope tg1 it1 _ H3 _
    intro s0 H0 C cl fp
    refine hi1 _ hm s0 H0 C cl fp B _ G3 H3 _ rs3 fun J1 G4 H4 g4 wk1 => ?_
    have g4D : G4 D = none := g4.ap D (by rw [h3D]; simp) g3D
    have h4D : H4 D = some (.lst acc) := g4.hh _ _ h3D
    have da4 := dda_ex (g3.gg.trans g4.gg) da
    -- the inner loop
    refine ⟨fun u m1 H5 => u + m1 = ys.length ∧ ∃ G5 acc5, Gr (G1) (H1) G5 H5 ∧ Ex G4 G5 ∧ G5 D = none ∧ H5 D = some (.lst acc5) ∧ DdAll G5 acc5 (((xs.take i).flatMap fun a => (ys.filter (p a)).map (r a)) ++ ((ys.take u).filter (p xs[i])).map (r xs[i])),
      ⟨ys.length, by omega, G4, acc, (g2.trans g3).trans g4, Ex.refl _, g4D, h4D, by rw [List.take_zero]; simpa using da4⟩, ?_⟩
    rintro u m1 H5 ⟨hum, G5, acc5, g5, e45, g5D, h5D, da5⟩
    obtain ⟨v1, v2⟩ := wk1 u G5 H5 e45 g5.gh
    by_cases hlt1 : u < ys.length
    · have hy : ys[u]? = some ys[u] := List.getElem?_eq_getElem hlt1
      have hmy : ys[u] ∈ ys := List.getElem_mem hlt1
      have etk : ys.take (u + 1) = ys.take u ++ [ys[u]] := by rw [List.take_add_one, hy]; rfl
      obtain ⟨go1, yl1⟩ := v2 (enc1 ys[u]) (by rw [List.getElem?_map, hy]; rfl)
      refine .inr ⟨go1, fun H6 => ∃ G6 acc6, Gr G1 H1 G6 H6 ∧ Ex G4 G6 ∧ G6 D = none ∧ H6 D = some (.lst acc6) ∧ DdAll G6 acc6 (((xs.take i).flatMap fun a => (ys.filter (p a)).map (r a)) ++ ((ys.take (u + 1)).filter (p xs[i])).map (r xs[i])),
        fun H6 ⟨G6, acc6, q⟩ => ⟨m1 - 1, by omega, by omega, G6, acc6, q⟩, fun x1 H6 y1 => ?_⟩
      obtain ⟨G6, g6, dx1⟩ := yl1 x1 H6 y1
      have g6D : G6 D = none := g6.ap D (by rw [h5D]; simp) g5D
      have h6D : H6 D = some (.lst acc5) := g6.hh _ _ h5D
      have rs6 : RS (pw X) B (((wipeD δ vs).set j (.val (enc xs[i]))).set l (.val (enc1 ys[u]))) ((wipe (((wipe σ vs).set j (some x))) [l]).set l (some x1)) G6 H6 := by
        have a1 := (((rs1.grow (g5.trans g6)).wipe vs).set (i := j) (dd_ex (e45.trans g6.gg) (dd_ex g4.gg dx)))
        have a2 := (a1.set (i := l) dx1)
        have e0 : (wipe ((wipe σ vs).set j (some x)) [l]).set l (some x1) = ((wipe σ vs).set j (some x)).set l (some x1) := by
          show (((wipe σ vs).set j (some x)).set l none).set l (some x1) = _
          rw [List.set_set]
        rw [e0]
        exact a2
      refine ⟨wipe_set List.mem_cons_self, ?_⟩
      refine rdt_b (X := X) (scope := scope) (ht _ hm _ hmy) B _ G6 H6 _ rs6 fun G7 H7 g7 => ?_
      have g7D : G7 D = none := g7.ap D (by rw [h6D]; simp) g6D
      have h7D : H7 D = some (.lst acc5) := g7.hh _ _ h6D
      cases hp : p xs[i] ys[u] with
      | false =>
        rw [if_neg Bool.false_ne_true]
        refine ⟨G7, acc5, (g5.trans g6).trans g7, (e45.trans g6.gg).trans g7.gg, g7D, h7D, ?_⟩
        rw [etk, List.filter_append, List.filter_cons_of_neg (by rw [hp]; exact Bool.false_ne_true), List.filter_nil, List.append_nil]
        exact dda_ex (g6.gg.trans g7.gg) da5
      | true =>
        rw [if_pos rfl]
        intro s1 H01 C1 cl1 fp1
        refine he _ hm _ hmy hp s1 H01 C1 cl1 fp1 B _ G7 H7 _ (rs6.grow g7) fun v G8 H8 g8 dv => ?_
        have g8D : G8 D = none := g8.ap D (by rw [h7D]; simp) g7D
        have h8D : H8 D = some (.lst acc5) := g8.hh _ _ h7D
        have lacc := dda_len da5
        rw [List.length_append] at lacc
        have b1 := bound i
        have b2 : (((ys.take u).filter (p xs[i])).map (r xs[i])).length ≤ u := by
          rw [List.length_map]
          refine Nat.le_trans (List.length_filter_le _ _) ?_
          rw [List.length_take]
          exact Nat.min_le_left _ _
        have b3 : i * ys.length + ys.length ≤ xs.length * ys.length := by
          rw [← Nat.succ_mul]
          exact Nat.mul_le_mul_right _ hlt
        have gAll := ((g5.trans g6).trans g7).trans g8
        refine ⟨acc5, h8D, Nat.lt_of_lt_of_le (by omega : acc5.length < 100000) (by decide), G8, acc5 ++ [v], ⟨gAll.gg, fun a o q => ?_, fun a o q => ?_, gAll.ap, fun t => (gAll.tb t).lst h8D⟩, ((e45.trans g6.gg).trans g7.gg).trans g8.gg, g8D, upd_same, ?_⟩
        · rw [upd_ne (ne_of_none q nD)]
          exact gAll.hh a o q
        · rw [upd_ne (ne_of_none q g8D)]
          exact g8.gh a o q
        · rw [etk, List.filter_append, List.filter_cons_of_pos hp, List.filter_nil, List.map_append, ← List.append_assoc]
          exact dda_app (dda_ex ((g6.gg.trans g7.gg).trans g8.gg) da5) (.cons dv .nil)
    · have eu : u = ys.length := by omega
      subst eu
      refine .inl ⟨v1 (by rw [List.length_map]), G5, acc5, g5, g5D, h5D, ?_⟩
      rw [List.take_length] at da5
      rw [etake, List.flatMap_append, List.flatMap_cons, List.flatMap_nil, List.append_nil]
      exact da5
  · have e : i = xs.length := by omega
    subst e
    refine .inl ⟨w1 (by rw [List.length_map]), k D acc G' H' (g1.trans g2) (g1.hh.free nD) g2D h2D ?_⟩
    rw [List.take_length] at da
    exact da
/-- y = [elt for x in iter for x1 in iter1 if c] -/
theorem sd_setLc2 {α β : Type} {x x1 y : Str} {px px1 py spos : Pos} {iter1 c : Expr} (i j l : Nat) (N : List Str) (sc : Scope) (own : List (Str × Nat)) (xs : List α) (ys : List β) (enc : α → PyData) (enc1 : β → PyData) (p : α → β → Bool) (r : α → β → PyData)
    (hi : ID X δ (.Name x px) iter (xs.map enc)) (hz : xs.length * ys.length ≤ 100000) (hi1 : ∀ a ∈ xs, bID X scope ((wipeD δ (own.map (·.2))).set j (.val (enc a))) (.Name x1 px1) iter1 (ys.map enc1))
    (ht : ∀ a ∈ xs, ∀ b ∈ ys, bTD X scope (((wipeD δ (own.map (·.2))).set j (.val (enc a))).set l (.val (enc1 b))) c (p a b)) (he : ∀ a ∈ xs, ∀ b ∈ ys, p a b = true → bED X scope (((wipeD δ (own.map (·.2))).set j (.val (enc a))).set l (.val (enc1 b))) elt (r a b))
    (k : SD X (δ.set i (.val (.list (xs.flatMap fun a => (ys.filter (p a)).map (r a))))) rest E)
    (hc : X.calm = true := by rfl) (hN : X.N.Nodup := by assumption) (ok : blkC N sc scope own = true := by decide +kernel) (eN : X.N = N := by rfl) (es : X.env.scope = sc := by rfl) (hj : j ∈ own.map (·.2) := by decide) (hl : l ∈ own.map (·.2) := by decide) (hjl : j ≠ l := by decide)
    (hy : X.N[i]? = some y := by rfl) (hyl : X.env.scope.names.lookup y = some .local := by rfl) (hsw : swapsWith (.ListComp elt [⟨.Name x px, iter, [], 0⟩, ⟨.Name x1 px1, iter1, [c], 0⟩] scope pos) (some (.Name y py)) spos.line X.env = pure true := by exact sw_true rfl rfl rfl (by decide +kernel))
    (hg : ∀ (s : Shared) (H : Hp) (C : Addr) (cl : List (Str × Addr)) (fp : List Addr), PG (X.blk s H scope (compEnvC scope cl C X.env) fp) (.Name x px) (gName j) := by exact fun _ _ _ _ _ => pg_name (by assumption) rfl (Or.inl rfl))
    (hg1 : ∀ (s : Shared) (H : Hp) (C : Addr) (cl : List (Str × Addr)) (fp : List Addr), PG (X.blk s H scope (compEnvC scope cl C X.env) fp) (.Name x1 px1) (gName l) := by exact fun _ _ _ _ _ => pg_name (by assumption) rfl (Or.inl rfl))
    (hs : ∀ x, foldedSetIterable iter X.env x = pure x := by intro _; rfl) (hs1 : ∀ env x, foldedSetIterable iter1 env x = pure x := by intro _ _; rfl) :
    SD X δ (.Assign [.Name y py] (.ListComp elt [⟨.Name x px, iter, [], 0⟩, ⟨.Name x1 px1, iter1, [c], 0⟩] scope pos) spos :: rest) E :=
  sd_asgR (ps_setLc2 (vs1 := [l]) hc hN hy hyl hsw pi_rd (blk9 ok eN es) (fun u hu => by rw [List.mem_singleton.mp hu]; exact hl) hg (fun _ _ _ _ _ => pts_nil) (bi_run (.Name x1 px1) iter1) hg1 (fun s H C cl fp => pts_one (bt_run c s H C cl fp)) (be_run elt) hs hs1) (lc2_core9 (X := X) (scope := scope) (e := elt) (c := c) (tg1 := .Name x1 px1) (it1 := iter1) (wi := rdI X (.Name x px) iter) (j := j) (l := l) (vs := own.map (·.2)) xs ys enc enc1 p r hj hl hjl hi hz hi1 ht he) k
end
end C9
set_option Elab.async false
set_option linter.all false
set_option maxRecDepth 100000
set_option maxHeartbeats 1000000
namespace C9
open PySem PySem.Spec PyProof.Rows L2
/-! ### dicts whose keys are tuples of truth values -/
section
variable {P : Program} {w : World} {H : Hp} {h : Heap} {l a : Addr} {xs : List (List Bool × Addr × V)}
abbrev DRel : List (List Bool × Addr × V) → List (List Bool × Addr × Value) → Prop := Paired fun (x : List Bool × Addr × V) (u : List Bool × Addr × Value) => x.1 = u.1 ∧ x.2.1 = u.2.1 ∧ RelV x.2.2 u.2.2
theorem items_bl {ks : List Bool} : ∀ {us : List Value}, Vals (ks.map V.bl) us → ItemsAre (PpSet.boolK P w) ks us := by
  induction ks with
  | nil => intro us r; cases r; exact .nil
  | cons k ks ih =>
    intro us r
    cases r with
    | cons h t =>
      have e : _ = Value.bool k := h
      rw [e]
      exact .cons (PpSet.boolK_is P w k) (ih t)
theorem key_bl {ks : List Bool} (ok : HOk P w H h) (e : H a = some (.tup (ks.map V.bl))) : (tupleKind (PpSet.boolK P w)).is h ks a := by
  obtain ⟨_, its, r, o, h1, h2, n, h3⟩ := (show ObjOk P w H h a (.tup (ks.map V.bl)) from ok a _ e)
  exact ⟨o, its.toArray, n, h1, h2, h3, by simpa using items_bl r⟩
/-- the keys' tuples stand -/
def KeysAt (H : Hp) (xs : List (List Bool × Addr × V)) : Prop := ∀ x ∈ xs, H x.2.1 = some (.tup (x.1.map V.bl))
theorem db_at (ok : HOk P w H h) (e : H l = some (DB P w l xs)) (hk : KeysAt H xs) : (l == sysModules) = false ∧ ∃ us, DRel xs us ∧ h.DictOfH (tupleKind (PpSet.boolK P w)) l us := by
  obtain ⟨⟨hs, us, r, o, es, ep, h1, h2, h3, h4, h5⟩, _, _⟩ := (show ObjOk P w H h l (DB P w l xs) from ok l _ e)
  refine ⟨hs, us, r, o, es, ep, h1, h2, h3, h4, fun u hu => ?_, h5⟩
  have all : ∀ {xs : List (List Bool × Addr × V)} {us : List (List Bool × Addr × Value)}, DRel xs us → KeysAt H xs → ∀ u ∈ us, (tupleKind (PpSet.boolK P w)).is h u.1 u.2.1 := by
    intro xs us q
    induction q with
    | nil => intro _ u hu; exact nomatch hu
    | @cons x u xs us hx t ih =>
      intro hk v hv
      rcases List.mem_cons.mp hv with e | hv
      · subst e
        have q := hk x List.mem_cons_self
        rw [hx.1, hx.2.1] at q
        exact key_bl ok q
      · exact ih (fun y hy => hk y (List.mem_cons_of_mem _ hy)) v hv
  exact all r hk u hu
theorem db_new {H' : Hp} {us : List (List Bool × Addr × Value)} (hs : (l == sysModules) = false) (r : DRel xs us) (d : h.DictOfH (tupleKind (PpSet.boolK P w)) l us) : ObjOk P w H' h l (DB P w l xs) := by
  obtain ⟨o, es, ep, h1, h2, h3, h4, _, h5⟩ := d
  refine ⟨⟨hs, us, r, o, es, ep, h1, h2, h3, h4, h5⟩, ⟨o, h1⟩, fun g1 g2 ⟨z1, us', z2, o', es', ep', z3, z4⟩ k => ⟨z1, us', z2, o', es', ep', k _ z3, z4⟩⟩
theorem drel_at {ks : List Bool} : ∀ {xs : List (List Bool × Addr × V)} {us : List (List Bool × Addr × Value)}, DRel xs us → (xs.any fun x => decide (x.1 = ks)) = (atKey us ks).isSome
  | _, _, .nil => rfl
  | _, _, .cons (a := x) (b := u) (l₁ := xs) (l₂ := us) hx t => by
    have ih := drel_at (ks := ks) t
    rw [List.any_cons]
    by_cases e : x.1 = ks
    · have e' : u.1 = ks := hx.1.symm.trans e
      rw [decide_eq_true e, Bool.true_or]
      simp [atKey, List.find?_cons, e']
    · have e' : ¬ u.1 = ks := fun z => e (hx.1.trans z)
      have q : atKey (u :: us) ks = atKey us ks := by simp [atKey, List.find?_cons, e']
      rw [decide_eq_false e, Bool.false_or, q]
      exact ih
theorem drel_len {xs : List (List Bool × Addr × V)} {us : List (List Bool × Addr × Value)} (r : DRel xs us) : xs.length = us.length := Paired.length r
end
section
variable {X : Cx} {δ : List Sl} {a b e : Expr} {rest : List Stmt} {pos : Pos} {E : En}
theorem kok_any {G : Hp} {ks : List Bool} : ∀ {kvs : List (List Bool × PyData)} {xs : List (List Bool × Addr × V)}, KOk G kvs xs → (xs.any fun x => decide (x.1 = ks)) = kvs.any fun kv => decide (kv.1 = ks)
  | _, _, .nil => rfl
  | _, _, .cons (l₁ := kvs) (l₂ := xs) hx t => by rw [List.any_cons, List.any_cons, kok_any t, hx.1]
theorem kok_keys {G : Hp} : ∀ {kvs : List (List Bool × PyData)} {xs : List (List Bool × Addr × V)}, KOk G kvs xs → KeysAt G xs
  | _, _, .nil => fun _ h => nomatch h
  | _, _, .cons (a := kv) (b := x) hx t => fun y hy => by
    rcases List.mem_cons.mp hy with z | hy
    · rw [z, ← hx.1]; exact hx.2.1
    · exact kok_keys t y hy
theorem KeysAt.ex {H H' : Hp} {xs : List (List Bool × Addr × V)} (k : KeysAt H xs) (e : Ex H H') : KeysAt H' xs := fun x hx => e _ _ (k x hx)
/-- k in d, k not in d, by values -/
def rInB (X : Cx) (neg : Bool) : R2 := fun x y H Q => ∃ l p ks xs, y = .ref l ∧ x = .ref p ∧ H p = some (.tup (ks.map V.bl)) ∧ H l = some (DB X.prog X.w l xs) ∧ KeysAt H xs ∧ Q (.bl (if neg then !(xs.any fun x => decide (x.1 = ks)) else xs.any fun x => decide (x.1 = ks))) H
theorem op_inB (hu : X.A.units + 1 < cLine) : OpR X (compareOp .In) (rInB X false) := by
  intro pins s σ H x y v u Q I rx ry h
  obtain ⟨l, p, ks, xs, rfl, rfl, hp, hl, hk, q⟩ := h
  cases rx
  cases ry
  obtain ⟨hs, us, r, dd⟩ := db_at I.hok hl hk
  refine wpAny_in_heap (tupleKind_room_in1 hu) (key_bl I.hok hp) hs dd ?_
  exact ⟨.bl _, H, I.tok _, by rw [drel_at r]; rfl, q⟩
theorem op_notInB (hu : X.A.units + 1 < cLine) : OpR X (compareOp .NotIn) (rInB X true) := by
  intro pins s σ H x y v u Q I rx ry h
  obtain ⟨l, p, ks, xs, rfl, rfl, hp, hl, hk, q⟩ := h
  cases rx
  cases ry
  obtain ⟨hs, us, r, dd⟩ := db_at I.hok hl hk
  refine wpAny_notIn_heap (tupleKind_room_in1 hu) (key_bl I.hok hp) hs dd ?_
  exact ⟨.bl _, H, I.tok _, by rw [drel_at r]; rfl, q⟩
theorem dd_key {G : Hp} {v : V} {ks : List Bool} (h : Dd G v (.tuple (ks.map PyData.bool))) : ∃ p, v = .ref p ∧ G p = some (.tup (ks.map V.bl)) := by
  cases h with
  | @tup p vs _ h r => exact ⟨p, rfl, by rw [h, dda_bls r]⟩
theorem td_inB {i : Nat} {x : Str} {px : Pos} {ks : List Bool} {kvs : List (List Bool × PyData)} (hd : δ[i]? = some (.dct kvs)) (hu : X.A.units + 1 < cLine) (ha : ED X δ a (.tuple (ks.map PyData.bool))) (hN : X.N[i]? = some x := by rfl) (hv : Vis X.env.scope x := by first | exact Or.inl rfl | exact Or.inr (Or.inl rfl) | exact Or.inr (Or.inr rfl))
    (h1 : (x == ("__debug__" : Str)) = false := by decide) (h2 : (x == ("__classdict__" : Str)) = false := by decide) : TD X δ (.Compare a [.In] [.Name x px] pos) (kvs.any fun kv => decide (kv.1 = ks)) :=
  TD.of (pt_cmpR (op_inB hu) pe_rd (pe_var hN hv h1 h2) (by rfl)) fun B σ G H Q rs k => ha B σ G H _ rs fun v G1 H1 g1 d1 => by
    obtain ⟨o, eo, l, xs, rfl, q1, q2, q3, q4⟩ := (rs.grow g1).get hd
    obtain ⟨p, rfl, hp⟩ := dd_key d1
    refine ⟨.ref l, eo, l, p, ks, xs, rfl, rfl, g1.gh _ _ hp, q3, (kok_keys q4).ex g1.gh, _, rfl, ?_⟩
    show Q (xs.any fun x => decide (x.1 = ks)) H1
    rw [kok_any q4]
    exact k G1 H1 g1
theorem td_notInB {i : Nat} {x : Str} {px : Pos} {ks : List Bool} {kvs : List (List Bool × PyData)} (hd : δ[i]? = some (.dct kvs)) (hu : X.A.units + 1 < cLine) (ha : ED X δ a (.tuple (ks.map PyData.bool))) (hN : X.N[i]? = some x := by rfl) (hv : Vis X.env.scope x := by first | exact Or.inl rfl | exact Or.inr (Or.inl rfl) | exact Or.inr (Or.inr rfl))
    (h1 : (x == ("__debug__" : Str)) = false := by decide) (h2 : (x == ("__classdict__" : Str)) = false := by decide) : TD X δ (.Compare a [.NotIn] [.Name x px] pos) (!kvs.any fun kv => decide (kv.1 = ks)) :=
  TD.of (pt_cmpR (op_notInB hu) pe_rd (pe_var hN hv h1 h2) (by rfl)) fun B σ G H Q rs k => ha B σ G H _ rs fun v G1 H1 g1 d1 => by
    obtain ⟨o, eo, l, xs, rfl, q1, q2, q3, q4⟩ := (rs.grow g1).get hd
    obtain ⟨p, rfl, hp⟩ := dd_key d1
    refine ⟨.ref l, eo, l, p, ks, xs, rfl, rfl, g1.gh _ _ hp, q3, (kok_keys q4).ex g1.gh, _, rfl, ?_⟩
    show Q (!(xs.any fun x => decide (x.1 = ks))) H1
    rw [kok_any q4]
    exact k G1 H1 g1
/-- a new dict -/
theorem pe_dnewB : PE X (.Dict [] [] pos) (fun _ H Q => ∀ l, H l = none → Q (.ref l) (upd H l (DB X.prog X.w l []))) := ⟨fun pins s σ H Q I h => by
  have big : (s.heap.objs.size == sysModules) = false := beq_eq_false_iff_ne.mpr fun z => absurd I.big (by rw [z]; exact Nat.lt_irrefl _)
  refine wpAny_Dict_empty ⟨.ref s.heap.objs.size, _, I.laid (a := s.heap.objs.size) (o := DB X.prog X.w s.heap.objs.size []) (t' := s.toks) (fun _ _ q => Heap.get?_push_of_some _ q) (Nat.le_refl _) ?_, rfl, h _ (I.hok.fresh (Nat.le_refl _))⟩
  exact db_new (us := []) big .nil (Heap.DictOfH.new s.heap)⟩
theorem sd_dnew {i : Nat} {x : Str} {p pos' : Pos} (k : SD X (δ.set i (.dct [])) rest E) (hN : X.N.Nodup := by assumption) (hi : X.N[i]? = some x := by rfl) (hx : Loc X.env.scope x := by first | exact Or.inl rfl | exact Or.inr rfl)
    (hs : swapsWith (.Dict [] [] p) (some (.Name x pos')) pos.line X.env = pure false := by rfl) (hf : X.fn x = true ∨ X.env.scope.names.lookup x = some .local := by first | exact .inl rfl | exact .inr rfl) : SD X δ (.Assign [.Name x pos'] (.Dict [] [] p) pos :: rest) E :=
  sd_cons (ps_set hN hi hx pe_dnewB hs hf) fun B σ G H D rs f => fun l hl => by
    have g := Gr.raw (o := DB X.prog X.w l []) rs.ex hl
    have rs1 := rs.grow g
    refine k B _ G _ D (rs1.put rs1.gr (Ex.refl _) (fun _ _ _ _ _ _ q => q) ⟨l, [], rfl, rs.ex.free hl, rs.gr.hh.free hl, upd_same, .nil⟩ fun _ j y aa hj e1 m ea s1 => ?_) f
    cases ea
    have q := rs.sl j y _ e1 s1
    cases y with
    | own _ => obtain ⟨l', _, e2, _, _, h3, _⟩ := q; cases e2; rw [hl] at h3; cases h3
    | oat l' _ => obtain ⟨_, e2, _, _, h3, _⟩ := q; cases e2; rw [hl] at h3; cases h3
    | dct _ => obtain ⟨l', _, e2, _, _, h3, _⟩ := q; cases e2; rw [hl] at h3; cases h3
    | _ => cases m
/-- d[k] = v, k new -/
theorem ps_dputB {td ty tv : TE} {o i value : Expr} {pos' : Pos} (hu : X.A.units + 1 < cLine) (ho : PE X o td) (hi : PE X i ty) (hv : PE X value tv) (hs : swapsWith value (some (.Subscript o i pos')) pos.line X.env = pure false) :
    PS X (.Assign [.Subscript o i pos'] value pos) (fun D σ H => tv σ H fun v H1 => td σ H1 fun x H2 => ty σ H2 fun y H3 => ∃ l p ks xs, x = .ref l ∧ y = .ref p ∧ H3 p = some (.tup (ks.map V.bl)) ∧ H3 l = some (DB X.prog X.w l xs) ∧ KeysAt H3 xs ∧ (xs.any fun x => decide (x.1 = ks)) = false ∧ xs.length < sizeLine ∧ D.nx σ (upd H3 l (DB X.prog X.w l (xs ++ [(ks, p, v)])))) := by
  refine ⟨fun pins s σ H D I h => ?_⟩
  refine wpAny_Assign_Subscript (thn (hv.run pins s σ H _ I h) fun r s1 ⟨v, H1, I1, rv, q1⟩ => thn (ho.run pins s1 σ H1 _ I1 q1) fun u s2 ⟨x, H2, I2, rx, q2⟩ => thn (hi.run pins s2 σ H2 _ I2 q2) fun iv s3 ⟨y, H3, I3, ry, q3⟩ => ?_) hs
  obtain ⟨l, p, ks, xs, rfl, rfl, hp, hl, hk, hn, hz, q⟩ := q3
  cases rx
  cases ry
  obtain ⟨hsy, us, rr, dd⟩ := db_at I3.hok hl hk
  have len := drel_len rr
  refine wpAny_setItem_heap (hsz := by rw [← len]; exact Nat.le_of_lt hz) (tupleKind_room_in1 hu) (key_bl I3.hok hp) dd fun h' dd' hsb => ?_
  have hnone : atKey us ks = none := by
    have e := drel_at (ks := ks) rr
    rw [hn] at e
    cases hq : atKey us ks with
    | none => rfl
    | some z => rw [hq] at e; cases e
  rw [storedH_new hnone] at dd'
  obtain ⟨ob, es, ep, hob, _⟩ := id dd'
  exact ⟨σ, _, d_write (t' := s3.toks + (tupleKind (PpSet.boolK X.prog X.w)).draws ks) I3 (by rw [hl]; exact True.intro) hsb ⟨ob, hob⟩ (db_new hsy (Paired.snoc rr ⟨rfl, rfl, rv⟩) dd'), q⟩
theorem sd_dput {i : Nat} {x : Str} {px pos' : Pos} {ks : List Bool} {d : PyData} {kvs : List (List Bool × PyData)} (hd : δ[i]? = some (.dct kvs)) (hu : X.A.units + 1 < cLine) (ha : ED X δ a (.tuple (ks.map PyData.bool))) (he : ED X δ e d) (hn : (kvs.any fun kv => decide (kv.1 = ks)) = false) (hz : kvs.length < 100000)
    (k : SD X (δ.set i (.dct (kvs ++ [(ks, d)]))) rest E) (hN : X.N[i]? = some x := by rfl) (hv : Vis X.env.scope x := by first | exact Or.inl rfl | exact Or.inr (Or.inl rfl) | exact Or.inr (Or.inr rfl))
    (h1 : (x == ("__debug__" : Str)) = false := by decide) (h2 : (x == ("__classdict__" : Str)) = false := by decide) (hs : swapsWith e (some (.Subscript (.Name x px) a pos')) pos.line X.env = pure false := by rfl) :
    SD X δ (.Assign [.Subscript (.Name x px) a pos'] e pos :: rest) E :=
  sd_cons (ps_dputB hu (pe_var hN hv h1 h2) pe_rd pe_rd hs) fun B σ G H D rs f => he B σ G H _ rs fun v G1 H1 g1 d1 => by
    obtain ⟨o, eo, l, xs, rfl, q1, q2, q3, q4⟩ := (rs.grow g1).get hd
    refine ⟨.ref l, eo, ha B σ G1 H1 _ (rs.grow g1) fun y G2 H2 g2 d2 => ?_⟩
    obtain ⟨p, rfl, hp⟩ := dd_key d2
    have rs2 := (rs.grow g1).grow g2
    have l3 : H2 l = some (DB X.prog X.w l xs) := g2.hh _ _ q3
    have gl : G2 l = none := g2.ap l (by rw [q3]; simp) q1
    have kk := kok_ex g2.gg q4
    refine ⟨l, p, ks, xs, rfl, rfl, g2.gh _ _ hp, l3, (kok_keys kk).ex g2.gh, by rw [kok_any q4]; exact hn, by rw [← Paired.length q4]; exact Nat.lt_of_lt_of_le hz (by decide), ?_⟩
    have hi : i < σ.length := (List.getElem?_eq_some_iff.mp eo).1
    have es : σ.set i (some (.ref l)) = σ := by
      have q := (List.getElem?_eq_some_iff.mp eo).2
      rw [← q]
      exact List.set_getElem_self hi
    have mono : ∀ {J : Hp} {u : HO}, (∀ a o, J a = some o → a ≠ l) → Ex J H2 → Ex J (upd H2 l u) := fun {J u} n e a o q => by rw [upd_ne (n a o q)]; exact e a o q
    have n1 : ∀ a o, B.h a = some o → a ≠ l := fun a o q z => by rw [z, q2] at q; cases q
    have n2 : ∀ a o, G2 a = some o → a ≠ l := fun a o q z => by rw [z, gl] at q; cases q
    have rs3 := rs2.put (i := i) (x := .dct (kvs ++ [(ks, d)])) (o := some (.ref l)) (G' := G2) (H' := upd H2 l (DB X.prog X.w l (xs ++ [(ks, p, v)]))) ⟨rs2.gr.gg, mono n1 rs2.gr.hh, mono n2 rs2.ex, rs2.gr.ap, fun t => (rs2.gr.tb t).db l3 trivial⟩ (Ex.refl _)
      (fun j y hj e1 pp s1 q => by
        cases y with
        | no => trivial
        | val d => exact q
        | own ds' =>
          obtain ⟨l', vs', w1, w2, w3, w4, w5⟩ := q
          have hn : l' ≠ l := fun z => rs.ap j i (.own ds') (.dct kvs) l hj e1 hd rfl rfl (by rw [s1, w1, z]) eo
          exact ⟨l', vs', w1, w2, w3, by rw [upd_ne hn]; exact w4, w5⟩
        | oat l' ds' =>
          obtain ⟨vs', w1, w2, w3, w4, w5⟩ := q
          have hn : l' ≠ l := fun z => rs.ap j i (.oat l' ds') (.dct kvs) l hj e1 hd rfl rfl (by rw [s1, w1, z]) eo
          exact ⟨vs', w1, w2, w3, by rw [upd_ne hn]; exact w4, w5⟩
        | dct ds' =>
          obtain ⟨l', vs', w1, w2, w3, w4, w5⟩ := q
          have hn : l' ≠ l := fun z => rs.ap j i (.dct ds') (.dct kvs) l hj e1 hd rfl rfl (by rw [s1, w1, z]) eo
          exact ⟨l', vs', w1, w2, w3, by rw [upd_ne hn]; exact w4, w5⟩
        | fdc kvs => exact q)
      ⟨l, xs ++ [(ks, p, v)], rfl, gl, q2, upd_same, Paired.snoc kk ⟨rfl, hp, dd_ex g2.gg d1⟩⟩
      (fun _ j y a hj e1 m ea s1 => rs.ap j i y (.dct kvs) a hj e1 hd m rfl s1 (by rw [eo, ea]))
    rw [es] at rs3
    exact k B σ _ _ D rs3 f
/-- a dict of one's own stays as it is from now on -/
theorem sd_freezeD {i : Nat} {kvs : List (List Bool × PyData)} (hd : δ[i]? = some (.dct kvs)) (k : SD X (δ.set i (.fdc kvs)) rest E) : SD X δ rest E := fun B σ G H D rs f pins s I => by
  obtain ⟨o, e, l, xs, rfl, h1, h2, h3, r⟩ := rs.get hd
  obtain ⟨od, I1⟩ := I.lock h3 (by exact True.intro)
  have hi : i < σ.length := (List.getElem?_eq_some_iff.mp e).1
  have es : σ.set i (some (.ref l)) = σ := by
    have q := (List.getElem?_eq_some_iff.mp e).2
    rw [← q]
    exact List.set_getElem_self hi
  have ex : Ex G (upd G l (.frz od (DB X.prog X.w l xs))) := Ex.new h1
  have nb : ∀ b, B.h b ≠ none → b ≠ l := fun b hb z => hb (by rw [z]; exact h2)
  have gh : Ex (upd G l (.frz od (DB X.prog X.w l xs))) (upd H l (.frz od (DB X.prog X.w l xs))) := fun a u q => by
    by_cases ha : a = l
    · subst ha; rw [upd_same] at q ⊢; exact .of q
    · rw [upd_ne ha] at q ⊢; exact rs.ex a u q
  have rs2 := rs.put (i := i) (x := .fdc kvs) (o := some (.ref l)) (G' := upd G l (.frz od (DB X.prog X.w l xs))) (H' := upd H l (.frz od (DB X.prog X.w l xs))) ⟨rs.gr.gg.trans ex, fun a u q => by rw [upd_ne (nb a (by rw [q]; simp))]; exact rs.gr.hh a u q, gh, fun b n1 n2 => by rw [upd_ne (nb b n1)]; exact rs.gr.ap b n1 n2, fun t => (rs.gr.tb t).db h3 trivial⟩ ex
    (fun j y hj e1 p s1 q => by
      cases y with
      | no => trivial
      | val d => obtain ⟨v, q1, q2⟩ := q; exact ⟨v, q1, dd_ex ex q2⟩
      | own ds' =>
        obtain ⟨l', vs', q1, q2, q3, q4, q5⟩ := q
        have hl : l' ≠ l := fun z => rs.ap j i (.own ds') (.dct kvs) l hj e1 hd rfl rfl (by rw [s1, q1, z]) e
        exact ⟨l', vs', q1, by rw [upd_ne hl]; exact q2, q3, by rw [upd_ne hl]; exact q4, dda_ex ex q5⟩
      | oat l' ds' =>
        obtain ⟨vs', q1, q2, q3, q4, q5⟩ := q
        have hl : l' ≠ l := fun z => rs.ap j i (.oat l' ds') (.dct kvs) l hj e1 hd rfl rfl (by rw [s1, q1, z]) e
        exact ⟨vs', q1, by rw [upd_ne hl]; exact q2, q3, by rw [upd_ne hl]; exact q4, dda_ex ex q5⟩
      | dct ds' =>
        obtain ⟨l', vs', q1, q2, q3, q4, q5⟩ := q
        have hl : l' ≠ l := fun z => rs.ap j i (.dct ds') (.dct kvs) l hj e1 hd rfl rfl (by rw [s1, q1, z]) e
        exact ⟨l', vs', q1, by rw [upd_ne hl]; exact q2, q3, by rw [upd_ne hl]; exact q4, kok_ex ex q5⟩
      | fdc kvs => obtain ⟨l', xs, od', q1, q2, q3⟩ := q; exact ⟨l', xs, od', q1, ex _ _ q2, kok_ex ex q3⟩)
    ⟨l, xs, od, rfl, upd_same, kok_ex ex r⟩ (fun m => by cases m)
  rw [es] at rs2
  exact k B σ _ _ D rs2 f pins s I1
end
/-! ### d.items() -/
/-- the pairs of the dict at d, as new tuples -/
def Itb (P : Program) (w : World) (d : Addr) (o : Obj) (xs : List (List Bool × Addr × V)) : It :=
  ⟨fun i H => H d = some (.frz o (DB P w d xs)) ∧ i < xs.length, fun i H x H' => ∃ T q, x = .ref T ∧ H T = none ∧ xs[i]? = some q ∧ H' = upd H T (.tup [.ref q.2.1, q.2.2]),
    fun i H => H d = some (.frz o (DB P w d xs)) ∧ xs.length ≤ i⟩
theorem drel_get : ∀ {xs : List (List Bool × Addr × V)} {us : List (List Bool × Addr × Value)} {i : Nat} {x : List Bool × Addr × V}, DRel xs us → xs[i]? = some x → ∃ u, us[i]? = some u ∧ x.1 = u.1 ∧ x.2.1 = u.2.1 ∧ RelV x.2.2 u.2.2
  | _, _, _, _, .nil, e => by simp at e
  | _, _, 0, _, .cons h _, e => by simp at e; subst e; exact ⟨_, rfl, h⟩
  | _, _, i + 1, x, .cons _ r, e => by
    obtain ⟨u, e1, h1⟩ := drel_get (i := i) (x := x) r (by simpa using e)
    exact ⟨u, by simpa using e1, h1⟩
theorem frzB {X : Cx} {pins : List (Addr × Obj)} {σ : L2.St} {H : Hp} {s : Shared} {d : Addr} {o : Obj} {xs : List (List Bool × Addr × V)} (I : Inv X pins σ H s) (h : H d = some (.frz o (DB X.prog X.w d xs))) :
    (d == sysModules) = false ∧ s.heap.get? d = some o ∧ o.ExactDict ∧ ∃ (es : Array DictEntry) (ep : Nat) (us : List (List Bool × Addr × Value)), o.data = .dict es ep ∧ es.size = xs.length ∧ DRel xs us ∧ es.toList = us.map (entryOfKey (tupleKind (PpSet.boolK X.prog X.w))) := by
  obtain ⟨hd, ⟨hs, us, r, o', es, ep, h1, h2, h3, h4, h5⟩, _, _⟩ := I.hok d _ h
  rw [hd] at h1
  cases h1
  refine ⟨hs, hd, h2, es, ep, us, h3, ?_, r, h4⟩
  rw [size_of_entries h4, drel_len r]
theorem dict_ep9 {o : Obj} {es es' : Array DictEntry} {ep ep' : Nat} (h : o.data = .dict es ep) (h' : o.data = .dict es' ep') : es = es' ∧ ep = ep' := by
  rw [h] at h'
  cases h'
  exact ⟨rfl, rfl⟩
theorem turn_itb {P : Program} {w : World} {K : PySem.W.Frag} {elts : List Expr} {kk : Nat} {tpos : Pos} {d : Addr} {o : Obj} {xs : List (List Bool × Addr × V)} (it : Addr) {es : Array DictEntry} {ep : Nat} (hod : o.data = .dict es ep) :
    Turn P w K (.Tuple elts kk tpos) (Itb P w d o xs) [it] it (fun i h => ∃ ok ov, IsItemIter h it d i es.size ep ok ov) where
  mem := by simp
  obj := fun i h st b hb => by
    have e : b = it := by simpa using hb
    subst e
    obtain ⟨ok, ov, e⟩ := st
    exact ⟨_, e, fun v z => nomatch z⟩
  keep := fun i h h' st k => let ⟨ok, ov, e⟩ := st; ⟨ok, ov, k it (by simp) _ e⟩
  item := by
    intro X hP hw hK hc i pins s σ H E I hf st hg
    subst hP hw hK
    obtain ⟨hd, hi⟩ := hg
    obtain ⟨hs, hgd, hx, es', ep', us, hdt, hsz, r, ent⟩ := frzB I hd
    obtain ⟨rfl, rfl⟩ := dict_ep9 hod hdt
    obtain ⟨ok, ov, he⟩ := st
    have hlt : it < s.heap.objs.size := Heap.lt_size he
    have hie : i < es.size := by omega
    obtain ⟨x, hxi⟩ : ∃ x, xs[i]? = some x := ⟨_, List.getElem?_eq_getElem hi⟩
    obtain ⟨u, hu, k1, k2, k3⟩ := drel_get r hxi
    have hen : es[i] = entryOfKey (tupleKind (PpSet.boolK X.prog X.w)) u := by
      have q := entry_at ent i
      rw [hu, Array.getElem?_eq_getElem hie] at q
      exact Option.some.inj q
    refine wpAny_pyNext_items_item_raw he ⟨o, hgd, hx, hod⟩ hie fun h' ho hT hz hk => ?_
    refine ⟨_, rfl, wpAny_letOwnedTupleGo_items (s := { s with heap := h' }) ho fun h'' he' sb => ?_⟩
    have hT2 : h''.get? s.heap.objs.size = some { cls := .type "tuple", data := .seq #[Value.ref u.2.1, u.2.2] } := by
      rw [hen] at hT
      exact (sb.2 _ (Nat.ne_of_gt hlt)).trans hT
    have new : ObjOk X.prog X.w (upd H s.heap.objs.size (.tup [.ref x.2.1, x.2.2])) h'' s.heap.objs.size (.tup [.ref x.2.1, x.2.2]) :=
      ⟨by show 2 ≤ sizeLine; decide, [Value.ref u.2.1, u.2.2], .cons (by rw [k2]; rfl) (.cons k3 .nil), ⟨_, hT2, rfl, _, rfl⟩⟩
    have I1 : Inv X pins σ (upd H s.heap.objs.size (.tup [.ref x.2.1, x.2.2])) { s with heap := h'' } :=
      I.turnedNew (t' := s.toks) (ch := [it]) (fun b ob hb e => (sb.2 b (by simpa using hb)).trans (hk b ob (by simpa using hb) e)) hf (Nat.le_refl _) new
    refine ⟨.ref s.heap.objs.size, _, I1, rfl, ⟨_, x, rfl, I.hok.fresh (Nat.le_refl _), hxi, rfl⟩, ⟨_, _, he'⟩, fun b hb => ?_⟩
    have e : b = it := by simpa using hb
    rw [e, upd_ne (Nat.ne_of_lt hlt)]
    exact (hf it (by simp)).1
  done := by
    intro X hP hw hK hc i pins s σ H E I hf st hg
    subst hP hw hK
    obtain ⟨hd, hi⟩ := hg
    obtain ⟨f0, f1, f2, f3, f4, f5⟩ := hf it (by simp)
    obtain ⟨hs, hgd, hx, es', ep', us, hdt, hsz, r, ent⟩ := frzB I hd
    obtain ⟨rfl, rfl⟩ := dict_ep9 hod hdt
    obtain ⟨ok, ov, he⟩ := st
    exact wpAny_pyNext_items_end_raw (I.ok.hd hc) he ⟨o, hgd, hx, hod⟩ (by omega) fun h' eb => ⟨rfl, I.turned (t' := s.toks) (fun b ob hb e => eb b ob hb e) f0 f1 f3 f4 f5⟩
  self := fun A i s Q E st h => let ⟨_, _, e⟩ := st; PySem.W.kcp_self e h
section
variable {X : Cx} {δ : List Sl}
theorem pi_itemsB {e : Expr} {td : TE} {apos cpos tpos : Pos} {elts : List Expr} {kk : Nat} (he : PE X e td) (hbase : attributeBase e "items" X.env (eval e X.env) = eval e X.env := by rfl) (hline : (apos.endLine == cpos.line) = true := by rfl) :
    PI X (.Tuple elts kk tpos) (.Call (.Attribute e "items" apos) [] [] cpos) (fun σ H R => td σ H fun x H1 => ∃ d o xs, x = .ref d ∧ H1 d = some (.frz o (DB X.prog X.w d xs)) ∧ R (Itb X.prog X.w d o xs) H1) := by
  refine ⟨fun pins s σ H R I h => ?_⟩
  refine wpAny_Call_method (T := "dict") (id := "dict.items") hbase rfl hline PySem.F.plainAttrs_dict PySem.F.slot_dict_items PySem.F.type_dict_items (thn (he.run pins s σ H _ I h) fun u s1 ⟨x, H1, I1, rx, d, o, xs, ex, hd, q⟩ => ?_)
  subst ex
  obtain rfl : u = Value.ref d := rx
  obtain ⟨hs, hgd, hx, es, ep, us, hdt, hsz, r, ent⟩ := frzB I1 hd
  have raw : DT.Raw s1.heap d es ep := ⟨o, hgd, hx, hdt⟩
  refine ⟨raw.typeIs, fun a ea => ?_, ?_⟩
  · cases ea
    exact ⟨o, hgd, hx.2.1⟩
  have I2 : Inv X pins σ H1 { s1 with heap := s1.heap.push { cls := .type "dict_items", data := .fields #[.ref d] } } := I1.kept (t' := s1.toks) fun b ob q => Heap.get?_push_of_some _ q
  have fin : wpAny (model X.prog X.w) X.A (pyIter (.ref s1.heap.objs.size)) (PIE X pins σ (.Tuple elts kk tpos) R) X.xe { s1 with heap := s1.heap.push { cls := .type "dict_items", data := .fields #[.ref d] } } := by
    refine wpAny_pyIter_items_raw (d := d) ⟨_, Heap.get?_push_size _ rfl, rfl, rfl⟩ (show (s1.heap.push _).DictRaw d es ep from ⟨o, Heap.get?_push_of_some _ hgd, hx, hdt⟩) (pi_one (tk := s1.toks) I2 _ (turn_itb _ hdt) ⟨.none, .none, ?_⟩ q)
    exact Heap.get?_push_size _ rfl
  show wpAny _ _ (callWith cpos (.builtin "dict.items") [.ref d] [] []) _ X.xe s1
  exact method_meetsIn PySem.F.slot_dict_items PySem.F.entry_dict_items rfl (PySem.evalArgs_none ⟨rfl, raw.typeIs, PySem.F.args_dict_items_1 _, _, DT.meetsItems hs, raw, fin⟩)
theorem kok_get {G : Hp} : ∀ {kvs : List (List Bool × PyData)} {xs : List (List Bool × Addr × V)} {i : Nat} {kv : List Bool × PyData}, KOk G kvs xs → kvs[i]? = some kv → ∃ x, xs[i]? = some x ∧ kv.1 = x.1 ∧ G x.2.1 = some (.tup (kv.1.map V.bl)) ∧ Dd G x.2.2 kv.2
  | _, _, _, _, .nil, e => by simp at e
  | _, _, 0, _, .cons h _, e => by simp at e; subst e; exact ⟨_, rfl, h⟩
  | _, _, i + 1, x, .cons _ r, e => by
    obtain ⟨u, e1, h1⟩ := kok_get (i := i) (kv := x) r (by simpa using e)
    exact ⟨u, by simpa using e1, h1⟩
theorem dda_bl9 {G : Hp} : ∀ {ks : List Bool}, DdAll G (ks.map V.bl) (ks.map PyData.bool)
  | [] => .nil
  | _ :: _ => .cons (.bl _) dda_bl9
/-- for k, v in d.items(), d a dict that stays as it is -/
theorem id_items {i : Nat} {x : Str} {px apos cpos tpos : Pos} {elts : List Expr} {kk : Nat} {kvs : List (List Bool × PyData)} (hd : δ[i]? = some (.fdc kvs)) (hN : X.N[i]? = some x := by rfl) (hv : Vis X.env.scope x := by first | exact Or.inl rfl | exact Or.inr (Or.inl rfl) | exact Or.inr (Or.inr rfl))
    (h1 : (x == ("__debug__" : Str)) = false := by decide) (h2 : (x == ("__classdict__" : Str)) = false := by decide)
    (hbase : attributeBase (.Name x px) "items" X.env (eval (.Name x px) X.env) = eval (.Name x px) X.env := by rfl) (hline : (apos.endLine == cpos.line) = true := by rfl) :
    ID X δ (.Tuple elts kk tpos) (.Call (.Attribute (.Name x px) "items" apos) [] [] cpos) (kvs.map fun kv => .tuple [.tuple (kv.1.map PyData.bool), kv.2]) :=
  ID.of (pi_itemsB (pe_var hN hv h1 h2) hbase hline) fun B σ G H R rs k => by
    obtain ⟨o, eo, l, xs, od, rfl, q1, q2⟩ := rs.get hd
    refine ⟨.ref l, eo, l, od, xs, rfl, rs.ex _ _ q1, k _ G H (Gr.refl rs.ex) fun j G' H' e g => ?_⟩
    have hH : H' l = some (.frz od (DB X.prog X.w l xs)) := g _ _ (e _ _ q1)
    have len : kvs.length = xs.length := Paired.length q2
    refine ⟨fun z => ⟨hH, by rw [z, List.length_map, len]; exact Nat.le_refl _⟩, fun d hdd => ?_⟩
    rw [List.getElem?_map] at hdd
    cases hkv : kvs[j]? with
    | none => rw [hkv] at hdd; cases hdd
    | some kv =>
      rw [hkv] at hdd
      cases hdd
      obtain ⟨y, hy, e1, e2, e3⟩ := kok_get q2 hkv
      refine ⟨⟨hH, (List.getElem?_eq_some_iff.mp hy).1⟩, fun t H2 yy => ?_⟩
      obtain ⟨T, q, rfl, nT, hq, rfl⟩ := yy
      rw [hy] at hq
      cases hq
      have gn := Gr.new (o := .tup [.ref y.2.1, y.2.2]) g nT
      exact ⟨_, gn, .tup upd_same (.cons (.tup (gn.gg _ _ (e _ _ e2)) dda_bl9) (.cons (dd_ex (e.trans gn.gg) e3) .nil))⟩
end
end C9
set_option Elab.async false
set_option linter.all false
set_option maxRecDepth 100000
set_option maxHeartbeats 2000000
namespace C9
open PySem PySem.Spec PyProof.Rows L2
/-! ### list(enumerate(l)) -/
theorem enum_no_len : typeLookup (.type "enumerate") "__len__" = pure none := am_miss_of_fast (by decide +kernel)
theorem enum_no_hint : typeLookup (.type "enumerate") "__length_hint__" = pure none := am_miss_of_fast (by decide +kernel)
/-- the enumerate at turn i, its last tuple kept by the list S -/
def SteE (h : Heap) (e S it l : Addr) (i : Nat) (items : Array Value) : Prop :=
  ((∃ old, IsEnum h e it i old) ∨ ∃ old T f oT, IsEnumHeld h e it i old T f ∧ h.get? T = some oT ∧ T ≠ e ∧ T ≠ it ∧ T ≠ S) ∧ h.IsListIter it l i ∧ h.IsList l items
def enumV (items : List Value) : List (Key × Value) := (List.range items.length).zip items |>.map fun q => (Sum.inl (q.1 : Int), q.2)
theorem enumV_get {items : List Value} {j : Nat} {x : Value} (h : items[j]? = some x) : (enumV items)[j]? = some (Sum.inl (j : Int), x) := by
  have hl : j < items.length := (List.getElem?_eq_some_iff.mp h).1
  unfold enumV
  rw [List.getElem?_map, show ((List.range items.length).zip items)[j]? = some (j, x) from List.getElem?_zip_eq_some.mpr ⟨List.getElem?_range hl, h⟩]
  rfl
theorem enumV_len (items : List Value) : (enumV items).length = items.length := by
  unfold enumV
  rw [List.length_map, List.length_zip, List.length_range, Nat.min_self]
section
variable {prog : Program} {w : World} {A : Around} {s : Shared} {R : Result → Shared → Prop}
theorem nxtE {E : Value → Shared → Prop} {e S it l : Addr} {i : Nat} {items : Array Value} {Q : Option Value → Shared → Prop} (st : SteE s.heap e S it l i items) (hSl : S < s.heap.objs.size) (hlt : i < items.size) (hne : e ≠ it)
    (hQ : ∀ h' x, items[i]? = some x → SteE h' e S it l (i + 1) items → h'.get? s.heap.objs.size = some { cls := .type "tuple", data := .seq #[.int i s.toks, x] } → h'.objs.size = s.heap.objs.size + 1 →
      (∀ b o, b ≠ e → b ≠ it → s.heap.get? b = some o → h'.get? b = some o) → Q (some (.ref s.heap.objs.size)) { s with heap := h', toks := s.toks + 1 }) (hle : l ≠ e) (hli : l ≠ it) :
    wpAny (model prog w) A (pyNext (.ref e)) Q E s := by
  obtain ⟨he, hit, hl⟩ := st
  have hx : items[i]? = some items[i] := Array.getElem?_eq_getElem hlt
  have hel : e < s.heap.objs.size := by
    rcases he with ⟨old, he⟩ | ⟨_, _, _, _, he, _⟩
    · exact Heap.lt_size he
    · exact Heap.lt_size he
  have hil : it < s.heap.objs.size := by obtain ⟨_, q, _⟩ := hit; exact Heap.lt_size q
  have cast : ((i + 1 : Nat) : Int) = (i : Int) + 1 := by omega
  rcases he with ⟨old, he⟩ | ⟨old, T, f, oT, he, hT, h1, h2, h3⟩
  · refine wpAny_pyNext_enum_item he hit hl hx hne fun h' ho hit' ht hz hk => hQ h' _ hx ⟨.inr ⟨items[i], s.heap.objs.size, false, _, ?_, ht, Nat.ne_of_gt hel, Nat.ne_of_gt hil, Nat.ne_of_gt hSl⟩, hit', hl.at fun o q => hk l o hle hli q⟩ ht hz hk
    show IsEnumOut h' e it ((i + 1 : Nat) : Int) _ _
    rw [cast]; exact ho
  · refine wpAny_pyNext_enum_item_held he hT h1 h2 hit hl hx hne fun h' ho hit' ht hz hk => hQ h' _ hx ⟨.inr ⟨old, T, true, oT, ?_, hk T oT h1 h2 hT, h1, h2, h3⟩, hit', hl.at fun o q => hk l o hle hli q⟩ ht hz hk
    show IsEnumHeld h' e it ((i + 1 : Nat) : Int) _ _ _
    rw [cast]; exact ho
theorem finE {E : Value → Shared → Prop} {e S it l : Addr} {i : Nat} {items : Array Value} {Q : Option Value → Shared → Prop} (hh : A.handled = none) (st : SteE s.heap e S it l i items) (hge : items.size ≤ i)
    (hQ : ∀ h', Heap.ExtBut it s.heap h' → Q none { s with heap := h' }) : wpAny (model prog w) A (pyNext (.ref e)) Q E s := by
  obtain ⟨he, hit, hl⟩ := st
  have hx : items[i]? = none := Array.getElem?_eq_none hge
  rcases he with ⟨old, he⟩ | ⟨old, T, f, oT, he, hT, h1, h2, h3⟩
  · exact wpAny_pyNext_enum_end hh he hit hl hx hQ
  · exact wpAny_pyNext_enum_end_held hh he hit hl hx hQ
theorem SteE.keep {h h' : Heap} {e S it l : Addr} {i : Nat} {items : Array Value} (st : SteE h e S it l i items) (k : ∀ b o, b ≠ S → h.get? b = some o → h'.get? b = some o) (h1 : e ≠ S) (h2 : it ≠ S) (h3 : l ≠ S) : SteE h' e S it l i items := by
  obtain ⟨he, hit, hl⟩ := st
  refine ⟨?_, hit.at fun o q => k it o h2 q, hl.at fun o q => k l o h3 q⟩
  rcases he with ⟨old, he⟩ | ⟨old, T, f, oT, he, hT, q1, q2, q3⟩
  · exact .inl ⟨old, k e _ h1 he⟩
  · exact .inr ⟨old, T, f, oT, k e _ h1 he, k T _ q3 hT, q1, q2, q3⟩
theorem loopE {S I it l : Addr} {items : Array Value} (hh : A.handled = none) (hSI : S ≠ I) (hne : I ≠ it) (hlI : l ≠ I) (hli : l ≠ it) (hIS : it ≠ S) (hlS : l ≠ S) (hn : items.size ≤ sizeLine) (res : Value) {h₁ : Heap} (hSl1 : S < h₁.objs.size)
    (hR : ∀ h' tk acc c as, (∀ b o, b ≠ S → b ≠ I → b ≠ it → h₁.get? b = some o → h'.get? b = some o) → h'.get? S = some { cls := .type "list", dict := none, data := .seq acc c, slots := #[] } → as.length = items.size → PySem.W.KdxG (mixKind prog w) (enumV items.toList) S h' as →
      acc.toList = as.map Value.ref → R (.ok (.ret res)) { s with heap := h', toks := tk }) :
    ∀ (k i : Nat) (h : Heap) (tk c : Nat) (acc : Array Value) (as : List Addr), items.size - i = k → i ≤ items.size → SteE h I S it l i items → (∀ b o, b ≠ S → b ≠ I → b ≠ it → h₁.get? b = some o → h.get? b = some o) →
      h.get? S = some { cls := .type "list", dict := none, data := .seq acc c, slots := #[] } → acc.toList = as.map Value.ref → as.length = i → PySem.W.KdxG (mixKind prog w) (enumV items.toList) S h as → (∀ a ∈ as, a ≠ I ∧ a ≠ it) →
      codeAny (model prog w) A (.builtin "list.extend.loop" ⟨[.ref S, .ref I, res], []⟩) R { s with heap := h, toks := tk } := by
  intro k
  induction k with
  | zero =>
    intro i h tk c acc as hk hi hst hkeep hS hacc hal hG hap
    refine codeAny_builtin PySem.F.entry_extend_loop ?_
    rw [Around.under_plainId PySem.F.plain_extend_loop _]
    show wpAny _ A.in1 (pyNext (.ref I) >>= _) _ _ _
    refine wpAny_bind (finE (s := { s with heap := h, toks := tk }) (A := A.in1) hh hst (by omega) fun h' he => ?_)
    refine wpAny_pure (hR h' tk acc c as (fun b o h1 h2 h3 e => he b o h3 (hkeep b o h1 h2 h3 e)) (he S _ (Ne.symm hIS) hS) (by omega) ⟨hG.rise, hG.above, fun j a hj => ?_⟩ hacc)
    obtain ⟨key, k, x, e1, e2, e3⟩ := hG.pairs j a hj
    exact ⟨key, k, x, e1, e2, he a _ (hap a (List.mem_of_getElem? hj)).2 e3⟩
  | succ k ih =>
    intro i h tk c acc as hk hi hst hkeep hS hacc hal hG hap
    have hlt : i < items.size := by omega
    have hsz : acc.size = i := by rw [← Array.length_toList, hacc, List.length_map, hal]
    have hSl : S < h.objs.size := Heap.lt_size hS
    have hIl : I < h.objs.size := by
      rcases hst.1 with ⟨old, he⟩ | ⟨_, _, _, _, he, _⟩
      · exact Heap.lt_size he
      · exact Heap.lt_size he
    have hil : it < h.objs.size := by obtain ⟨_, q, _⟩ := hst.2.1; exact Heap.lt_size q
    refine codeAny_builtin PySem.F.entry_extend_loop ?_
    rw [Around.under_plainId PySem.F.plain_extend_loop _]
    show wpAny _ A.in1 (pyNext (.ref I) >>= _) _ _ _
    refine wpAny_bind (nxtE (s := { s with heap := h, toks := tk }) (S := S) hst hSl hlt hne (fun h' x hx hst' ht hz hkp => ?_) hlI hli)
    dsimp only at ht hz hkp ⊢
    have hS' := hkp S _ hSI (Ne.symm hIS) hS
    have up : ∀ b o, b ≠ S → h'.get? b = some o → (h'.update S (Obj.mapSeq (·.push (Value.ref h.objs.size)))).get? b = some o := fun b o hb e => (Heap.get?_update_other _ _ (Ne.symm hb)).trans e
    have hnew : h.objs.size ≠ S := Nat.ne_of_gt hSl
    show wpAny _ A.in1 (updateSeq S (·.push (Value.ref h.objs.size)) >>= _) _ _ _
    refine wpAny_bind ?_
    refine wpAny_updateSeq hS' rfl (wpAny_pure ⟨plainId_quiet PySem.F.plain_extend_loop _, ih (i + 1) _ (tk + 1) _ (acc.push (Value.ref h.objs.size)) (as ++ [h.objs.size]) (by omega) hlt (hst'.keep up (Ne.symm hSI) hIS hlS)
      (fun b o h1 h2 h3 e => up b o h1 (hkp b o h2 h3 (hkeep b o h1 h2 h3 e))) (Heap.get?_update_self _ hS' rfl) (by rw [Array.toList_push, hacc, List.map_append]; rfl) (by rw [List.length_append, hal]; rfl) ⟨?_, ?_, ?_⟩ ?_⟩) (by rw [hsz]; omega) (by show (acc.push (Value.ref h.objs.size)).size ≤ sizeLine + 1; rw [Array.size_push, hsz]; omega)
    · refine List.pairwise_append.mpr ⟨hG.rise, List.pairwise_singleton _ _, fun a ha b hb => ?_⟩
      rw [List.mem_singleton.mp hb]
      exact hG.there ha
    · intro a ha
      rcases List.mem_append.mp ha with ha | ha
      · exact hG.above a ha
      · rw [List.mem_singleton.mp ha]; exact hSl
    · intro j b hj
      rcases Nat.lt_trichotomy j as.length with h1 | h1 | h1
      · rw [List.getElem?_append_left h1] at hj
        obtain ⟨key, k', x', e1, e2, e3⟩ := hG.pairs j b hj
        have hm := List.mem_of_getElem? hj
        exact ⟨key, k', x', e1, e2, up b _ (Nat.ne_of_gt (hG.above b hm)) (hkp b _ (hap b hm).1 (hap b hm).2 e3)⟩
      · subst h1
        have hb : h.objs.size = b := by simpa using hj
        subst hb
        refine ⟨.int (as.length : Nat) tk, Sum.inl (as.length : Int), x, enumV_get (by rw [Array.getElem?_toList, hal]; exact hx), ?_, up _ _ hnew (by rw [hal]; exact ht)⟩
        show Value.isInt (as.length : Int) (.int (as.length : Int) tk) = true
        simp [Value.isInt]
      · have hnone : (as ++ [h.objs.size])[j]? = none := List.getElem?_eq_none (by rw [List.length_append, List.length_singleton]; omega)
        rw [hnone] at hj; cases hj
    · intro a ha
      rcases List.mem_append.mp ha with ha | ha
      · exact hap a ha
      · rw [List.mem_singleton.mp ha]
        exact ⟨Nat.ne_of_gt hIl, Nat.ne_of_gt hil⟩
theorem enum_hint {E : Value → Shared → Prop} {e : Addr} {Q : Bool → Shared → Prop} (hT : s.TypeIs (.ref e) "enumerate") (h : Q true s) : wpAny (model prog w) A (Builtin.List.listLengthHint (.ref e)) Q E s := by
  unfold Builtin.List.listLengthHint
  refine wpAny_bind (wpAny_specialOf hT enum_no_len ?_)
  show wpAny _ A (specialOf (Value.ref e) (Str.ofString "__length_hint__") >>= _) _ _ _
  refine wpAny_bind (wpAny_specialOf hT enum_no_hint ?_)
  exact wpAny_pure h
theorem extE {S I it l : Addr} {items : Array Value} (hh : A.handled = none) (he : IsEnum s.heap I it 0 .none) (hit : s.heap.IsListIter it l 0) (hl : s.heap.IsList l items) (hSI : S ≠ I) (hne : I ≠ it) (hlI : l ≠ I) (hli : l ≠ it) (hIS : it ≠ S) (hlS : l ≠ S) (hn : items.size ≤ sizeLine) (res : Value) (c₀ : Nat)
    (hS : s.heap.get? S = some { cls := .type "list", data := .seq #[] c₀ })
    (hR : ∀ h' tk acc c as, (∀ b o, b ≠ S → b ≠ I → b ≠ it → s.heap.get? b = some o → h'.get? b = some o) → h'.get? S = some { cls := .type "list", dict := none, data := .seq acc c, slots := #[] } → as.length = items.size → PySem.W.KdxG (mixKind prog w) (enumV items.toList) S h' as →
      acc.toList = as.map Value.ref → R (.ok (.ret res)) { s with heap := h', toks := tk }) :
    wpAny (model prog w) A.in1 (Builtin.List.listExtendWith (.ref S) (.ref I) res)
      (fun fin s' => match fin with | .done f => R (.ok f) s' | .again c' => c'.quiet = true ∧ codeAny (model prog w) A c' R s') (fun e s' => R (.error e) s') s := by
  have hT : s.TypeIs (.ref I) "enumerate" := ⟨_, he, rfl⟩
  unfold Builtin.List.listExtendWith
  refine wpAny_bind (wpAny_typeOf hT ?_)
  have h1 : Builtin.List.listSameRef (.ref S) (.ref I) = false := by simp [Builtin.List.listSameRef, hSI]
  have h2 : (Value.type "enumerate" == Value.type "list") = false := by decide
  have h3 : (Value.type "enumerate" == Value.type "tuple") = false := by decide
  simp only [h1, h2, h3, Bool.or_false, Bool.false_eq_true, if_false]
  refine wpAny_bind (wpAny_pyIter_enum he ?_)
  refine wpAny_bind (wpAny_holding (enum_hint hT ?_))
  show wpAny _ A.in1 (rule "list.extend.makes-room" >>= fun _ => Builtin.List.listTouch (.ref S) >>= fun _ =>
    again (.builtin "list.extend.loop" ⟨[.ref S, .ref I, res], []⟩)) _ _ _
  refine wpAny_bind (wpAny_rule ?_)
  refine wpAny_bind ?_
  show wpAny _ A.in1 (updateSeq S (·.push .none) >>= fun _ => updateSeq S (·.pop)) _ _ _
  refine wpAny_bind (wpAny_updateSeq hS rfl ?_)
  have hS₂ := Heap.get?_update_self (Obj.mapSeq (·.push Value.none)) hS rfl
  refine wpAny_updateSeq (hz := by seq_fits) hS₂ rfl ?_
  have hS₃ := Heap.get?_update_self (Obj.mapSeq (·.pop)) hS₂ rfl
  have oth : ∀ b o, b ≠ S → s.heap.get? b = some o → ((s.heap.update S (Obj.mapSeq (·.push Value.none))).update S (Obj.mapSeq (·.pop))).get? b = some o :=
    fun b o hb e => (Heap.get?_update_other _ _ (Ne.symm hb)).trans ((Heap.get?_update_other _ _ (Ne.symm hb)).trans e)
  exact wpAny_pure ⟨plainId_quiet PySem.F.plain_extend_loop _, loopE (s := s) hh hSI hne hlI hli hIS hlS hn res (h₁ := s.heap) (Heap.lt_size hS) hR
    items.size 0 _ _ _ #[] [] (Nat.sub_zero _) (Nat.zero_le _) ⟨.inl ⟨.none, oth I _ (Ne.symm hSI) he⟩, hit.at fun o q => oth it o hIS q, hl.at fun o q => oth l o hlS q⟩ (fun b o hb _ _ e => oth b o hb e) hS₃ rfl rfl
    ⟨List.Pairwise.nil, (fun _ ha => nomatch ha), (fun j a hj => by simp at hj)⟩ (fun _ ha => nomatch ha)⟩
theorem initE {S I it l : Addr} {items : Array Value} (hh : A.handled = none) (he : IsEnum s.heap I it 0 .none) (hit : s.heap.IsListIter it l 0) (hl : s.heap.IsList l items) (hSI : S ≠ I) (hne : I ≠ it) (hlI : l ≠ I) (hli : l ≠ it) (hIS : it ≠ S) (hlS : l ≠ S) (hn : items.size ≤ sizeLine)
    (hS : s.heap.get? S = some { cls := .type "list", data := .seq #[] })
    (hR : ∀ h' tk acc c as, (∀ b o, b ≠ S → b ≠ I → b ≠ it → s.heap.get? b = some o → h'.get? b = some o) → h'.get? S = some { cls := .type "list", dict := none, data := .seq acc c, slots := #[] } → as.length = items.size → PySem.W.KdxG (mixKind prog w) (enumV items.toList) S h' as →
      acc.toList = as.map Value.ref → R (.ok (.ret .none)) { s with heap := h', toks := tk }) :
    wpAny (model prog w) A.in1 (Builtin.«list.__init__» ⟨[.ref S, .ref I], []⟩)
      (fun fin s' => match fin with | .done f => R (.ok f) s' | .again c' => c'.quiet = true ∧ codeAny (model prog w) A c' R s') (fun e s' => R (.error e) s') s := by
  show wpAny _ _ (do let old ← Builtin.List.listItems (.ref S); Builtin.List.listUpdate (.ref S) (fun _ => #[]); letGo old.toList.reverse; Builtin.List.listExtendWith (.ref S) (.ref I) .none) _ _ s
  refine wpAny_bind ?_
  unfold Builtin.List.listItems
  refine wpAny_bind (wpAny_seqItems hS rfl (wpAny_pure ?_))
  show wpAny _ _ (updateSeq S (fun _ => #[]) >>= fun _ => letGo (#[] : Array Value).toList.reverse >>= fun _ => Builtin.List.listExtendWith (.ref S) (.ref I) .none) _ _ s
  refine wpAny_bind (wpAny_updateSeq hS rfl ?_)
  have hS₂ := Heap.get?_update_self (Obj.mapSeq (fun _ => (#[] : Array Value))) hS rfl
  have oth : ∀ b o, b ≠ S → s.heap.get? b = some o → (s.heap.update S (Obj.mapSeq (fun _ => (#[] : Array Value)))).get? b = some o :=
    fun b o hb e => (Heap.get?_update_other _ _ (Ne.symm hb)).trans e
  refine wpAny_bind (wpAny_letGo ?_)
  exact extE hh (oth I _ (Ne.symm hSI) he) (hit.at fun o q => oth it o hIS q) (hl.at fun o q => oth l o hlS q) hSI hne hlI hli hIS hlS hn .none _ hS₂ fun h' tk acc c as hk hS' h1 h2 h3 =>
    hR h' tk acc c as (fun b o q1 q2 q3 e => hk b o q1 q2 q3 (oth b o q1 e)) hS' h1 h2 h3
theorem call_list_enum {E : Value → Shared → Prop} {Q : Value → Shared → Prop} {I it l : Addr} {items : Array Value} (hh : A.handled = none) (he : IsEnum s.heap I it 0 .none) (hit : s.heap.IsListIter it l 0) (hl : s.heap.IsList l items) (hne : I ≠ it) (hlI : l ≠ I) (hli : l ≠ it) (hn : items.size ≤ sizeLine)
    (hQ : ∀ h' tk acc c as, (∀ b o, b ≠ I → b ≠ it → s.heap.get? b = some o → h'.get? b = some o) → h'.get? s.heap.objs.size = some { cls := .type "list", dict := none, data := .seq acc c, slots := #[] } → as.length = items.size → PySem.W.KdxG (mixKind prog w) (enumV items.toList) s.heap.objs.size h' as →
      acc.toList = as.map Value.ref → Q (.ref s.heap.objs.size) { s with heap := h', toks := tk }) :
    wpAny (model prog w) A (call (.type "list") [.ref I]) Q E s := by
  refine callType_codes (Q₁ := fun obj s₁ => obj = .ref s.heap.objs.size ∧ s₁ = { s with heap := s.heap.push { cls := .type "list", data := .seq #[] } }) F.called_list (F.typeCall_list_1 _) F.entry_list_init
    (code_list_new _ ⟨rfl, rfl⟩) fun obj s₁ h₁ => ?_
  obtain ⟨rfl, rfl⟩ := h₁
  have hS : (s.heap.push { cls := .type "list", data := .seq #[] }).get? s.heap.objs.size = some { cls := .type "list", data := .seq #[] } := Heap.get?_push_size _ rfl
  have l1 : I < s.heap.objs.size := Heap.lt_size he
  have l2 : it < s.heap.objs.size := by obtain ⟨_, q, _⟩ := hit; exact Heap.lt_size q
  have l3 : l < s.heap.objs.size := by obtain ⟨_, q, _⟩ := hl; exact Heap.lt_size q
  have up : ∀ b o, s.heap.get? b = some o → (s.heap.push { cls := .type "list", data := .seq #[] }).get? b = some o := fun b o e => Heap.get?_push_of_some _ e
  refine ⟨⟨_, hS, rfl⟩, F.args_list_init_2 _ _, initE (s := { s with heap := s.heap.push { cls := .type "list", data := .seq #[] } }) (A := A.in1) hh (up _ _ he) (hit.at fun o q => up it o q) (hl.at fun o q => up l o q) (Nat.ne_of_gt l1) hne hlI hli (Nat.ne_of_lt l2) (Nat.ne_of_lt l3) hn hS fun h' tk acc c as hk hS' h1 h2 h3 => ?_⟩
  exact ⟨rfl, hQ h' tk acc c as (fun b o q1 q2 e => hk b o (Nat.ne_of_lt (Heap.lt_size e)) q1 q2 (up b o e)) hS' h1 h2 h3⟩
end
end C9
set_option Elab.async false
set_option linter.all false
set_option maxRecDepth 100000
set_option maxHeartbeats 2000000
namespace C9
open PySem PySem.Spec PyProof.Rows L2 LiI
theorem tab_putT : ∀ (as : List Addr) (kvs : List (Key × V)) (H : Hp), TabInv H → (∀ a ∈ as, H a = none) → as.Nodup → TabInv (putT H as kvs)
  | [], _, _, t, _, _ => t
  | _ :: _, [], _, t, _, _ => t
  | a :: as, p :: kvs, H, t, h, nd => by
    have nd' := List.nodup_cons.mp nd
    exact tab_putT as kvs _ (t.new (h a List.mem_cons_self) trivial) (fun b hb => by rw [upd_ne (fun z => nd'.1 (by rw [← z]; exact hb))]; exact h b (List.mem_cons_of_mem _ hb)) nd'.2
/-- a new list of new pairs, laid above the old heap -/
theorem laidE {X : Cx} {pins : List (Addr × Obj)} {σ : L2.St} {H : Hp} {s : Shared} {h' : Heap} {tk : Nat} {kvs : List (Key × V)} {vs : List (Key × Value)} {acc : Array Value} {c : Nat} {as : List Addr} {S : Addr} (I : Inv X pins σ H s) (hz : kvs.length ≤ sizeLine) (kv : KV kvs vs) (hle : s.heap.objs.size ≤ S)
    (hk : ∀ b o, s.heap.get? b = some o → h'.get? b = some o) (hS : h'.get? S = some { cls := .type "list", dict := none, data := .seq acc c, slots := #[] }) (hl : as.length = vs.length) (hG : PySem.W.KdxG (mixKind X.prog X.w) vs S h' as) (hacc : acc.toList = as.map Value.ref) :
    ∃ H' : Hp, Ex H H' ∧ (TabInv H → TabInv H') ∧ H S = none ∧ (∀ t ∈ as, H t = none) ∧ S ∉ as ∧ as.Nodup ∧ H' S = some (.lst (as.map V.ref)) ∧ Paired (fun (t : Addr) (q : Key × V) => H' t = some (.tup [kV q.1, q.2])) as kvs ∧ Inv X pins σ H' { s with heap := h', toks := tk } := by
  have lk : kvs.length = vs.length := Paired.length kv
  have outS : S ∉ as := fun z => Nat.lt_irrefl _ (hG.above _ z)
  have nd : as.Nodup := List.Pairwise.imp (fun {a b} (h : a < b) => Nat.ne_of_lt h) hG.rise
  have freeT : ∀ t ∈ as, H t = none := fun t ht => I.hok.fresh (Nat.le_trans hle (Nat.le_of_lt (hG.above t ht)))
  have freeS : H S = none := I.hok.fresh hle
  let H0 := upd H S (.lst (as.map V.ref))
  have pairs := putT_at as kvs H0 (by omega) nd
  have away : ∀ b, b ∉ as → b ≠ S → putT H0 as kvs b = H b := fun b h1 h2 => by rw [putT_off as kvs _ h1]; exact upd_ne h2
  have older : ∀ b o, s.heap.get? b = some o → b ∉ as ∧ b ≠ S := fun b o e => by
    have hb := Heap.lt_size e
    exact ⟨fun z => Nat.lt_irrefl _ (Nat.lt_trans (Nat.lt_of_lt_of_le hb hle) (hG.above b z)), Nat.ne_of_lt (Nat.lt_of_lt_of_le hb hle)⟩
  have grow : ∀ b u, H b = some u → putT H0 as kvs b = some u := fun b u e => by
    rw [away b (fun z => by rw [freeT b z] at e; cases e) (fun z => by rw [z, freeS] at e; cases e)]
    exact e
  have eS : putT H0 as kvs S = some (.lst (as.map V.ref)) := by rw [putT_off as kvs _ outS]; exact upd_same
  refine ⟨putT H0 as kvs, .of grow, fun t => tab_putT as kvs H0 (t.new freeS trivial) (fun a ha => by show upd H S _ a = none; rw [upd_ne (fun z => outS (by rw [← z]; exact ha))]; exact freeT a ha) nd, freeS, freeT, outS, nd, eS, pairs, ?_⟩
  refine I.call' (ch := []) rfl ⟨fun b o q _ _ _ => hk b o q, fun b o q _ _ _ => ⟨o.slots, hk b o q⟩, fun b o q n _ => ?_, fun b o q _ => ⟨o, hk b o q⟩, fun b xs q => grow b _ q, fun b o u q => grow b _ q, fun b ps q => ⟨#[], by rw [grow b _ q]; simp⟩⟩ (fun b u q => ?_) I.bare fun b z => by simp at z
  · rw [away b (older b o q).1 (older b o q).2]
    exact n
  · by_cases hb : b ∈ as
    · obtain ⟨j, pk, e1, e2, e3⟩ := paired_ix pairs hb
      rw [e3] at q
      cases q
      obtain ⟨key, k, x, f1, f2, f3⟩ := hG.pairs j b e1
      obtain ⟨qv, g1, g2, g3⟩ := LiI.paired_get kv e2
      rw [f1] at g1
      cases g1
      have rk : RelV (kV pk.1) key := by
        rw [g2]
        exact relV_key (show keyIs k key = true from f2)
      exact ⟨by show 2 ≤ sizeLine; decide, [key, x], .cons rk (.cons g3 .nil), ⟨_, f3, rfl, _, rfl⟩⟩
    · by_cases hb2 : b = S
      · rw [hb2] at q ⊢
        rw [eS] at q
        cases q
        exact ⟨by rw [List.length_map]; omega, acc.toList, c, by rw [hacc]; exact LiI.vals_refs as, by rw [Array.toArray_toList]; exact hS⟩
      · rw [away b hb hb2] at q
        exact (I.hok b u q).stay (fun d v _ y => hk d v y) (fun d y => grow d _ y) fun d xs y => grow d _ y
/-- the numbered items -/
def numV (vs : List V) : List (Key × V) := ((List.range vs.length).zip vs).map fun q => (Sum.inl (q.1 : Int), q.2)
def numD (ds : List PyData) : List PyData := ((List.range ds.length).zip ds).map fun q => .tuple [.int (q.1 : Int), q.2]
theorem kv_num {α : Type} (f : α → Nat) : ∀ {l : List α} {vs : List V} {us : List Value}, Vals vs us → KV ((l.zip vs).map fun q => ((Sum.inl (f q.1 : Int) : Key), q.2)) ((l.zip us).map fun q => ((Sum.inl (f q.1 : Int) : Key), q.2))
  | [], _, _, _ => .nil
  | _ :: _, _, _, .nil => .nil
  | _ :: _, _, _, .cons h r => .cons ⟨rfl, h⟩ (kv_num f r)
theorem dda_num {G0 G' : Hp} (hg : Ex G0 G') : ∀ {ix : List Nat} {as : List Addr} {vs : List V} {ds : List PyData}, DdAll G0 vs ds → ix.length = vs.length → as.length = vs.length → (∀ (j : Nat) (t : Addr), as[j]? = some t → ∀ (i : Nat) (v : V), ix[j]? = some i → vs[j]? = some v → G' t = some (.tup [.int (i : Int), v])) →
    DdAll G' (as.map V.ref) ((ix.zip ds).map fun q => .tuple [.int (q.1 : Int), q.2])
  | [], [], [], _, .nil, _, _, _ => .nil
  | [], _ :: _, [], _, .nil, _, h, _ => by cases h
  | _ :: _, [], [], _, .nil, h, _, _ => by cases h
  | _ :: _, _ :: _, [], _, .nil, h, _, _ => by cases h
  | [], _, _ :: _, _, .cons _ _, h, _, _ => by cases h
  | _ :: _, [], _ :: _, _, .cons _ _, _, h, _ => by cases h
  | i :: ix, a :: as, v :: vs, d :: ds, .cons h r, h1, h2, k =>
    .cons (.tup (k 0 a rfl i v rfl rfl) (.cons (.int _) (.cons (dd_ex hg h) .nil))) (dda_num hg r (Nat.succ.inj h1) (Nat.succ.inj h2) fun j t e i' v' e1 e2 => k (j + 1) t (by simpa using e) i' v' (by simpa using e1) (by simpa using e2))
theorem num_get {vs : List V} {j : Nat} {q : Key × V} (h : (numV vs)[j]? = some q) {v : V} (hv : vs[j]? = some v) : q = (Sum.inl (j : Int), v) := by
  have hl : j < vs.length := (List.getElem?_eq_some_iff.mp hv).1
  unfold numV at h
  rw [List.getElem?_map, show ((List.range vs.length).zip vs)[j]? = some (j, v) from List.getElem?_zip_eq_some.mpr ⟨List.getElem?_range hl, hv⟩] at h
  exact (Option.some.inj h).symm
theorem ld_listEnum {X : Cx} {δ : List Sl} {a : Expr} {ds : List PyData} {p p2 pos pos2 : Pos} (ha : ED X δ a (.list ds)) (hmL : X.mg "list" = none) (hmE : X.mg "enumerate" = none) (hc : X.calm = true := by rfl) (hgL : Gl X "list" := by rfl) (hgE : Gl X "enumerate" := by rfl)
    (hs : starEach [a] X.env = [(false, eval a X.env)] := by rfl) (hs2 : starEach [.Call (.Name "enumerate" p2) [a] [] pos2] X.env = (false, eval (.Call (.Name "enumerate" p2) [a] [] pos2) X.env) :: starEach [] X.env := by rfl) :
    LD X δ (.Call (.Name "list" p) [.Call (.Name "enumerate" p2) [a] [] pos2] [] pos) (numD ds) := fun B σ G H Q rs k pins s I => by
  refine Call_ (ld_blt I hgL hmL boot_list (PyProof.Rows.callWith_type1 (args_cons (Call_ (ld_blt I hgE hmE boot_enumerate (PyProof.Rows.callWith_type1 (thn (ad_cons ha ad_nil hs B σ G H (fun vs H1 => ∃ G1, Gr G H G1 H1 ∧ DdAll G1 vs [.list ds]) rs (fun vs G1 H1 g d => ⟨G1, g, d⟩) pos2 pins s I) fun us s1 ⟨vs, H1, I1, r1, G1, g1, d1⟩ => ?_) hs rfl))) hs2) hs2))
  cases d1 with
  | cons d1 d2 =>
    cases d2
    cases d1 with
    | @lst q vs _ h1 rd1 =>
      cases r1 with
      | cons r rr =>
        cases rr
        cases r
        have hq := g1.gh _ _ h1
        obtain ⟨its, rv, p', hz⟩ := I1.list (.inl (.inl hq))
        refine call_enumerate_list p'.isList fun h' he hit hsz hk => args_nil ?_
        have I2 : Inv X pins σ H1 { s1 with heap := h' } := I1.kept (t' := s1.toks) hk
        have hql : q < s1.heap.objs.size := by obtain ⟨_, e, _⟩ := p'.isList; exact Heap.lt_size e
        refine call_list_enum (s := { s1 with heap := h' }) (I.ok.hd hc) he hit (p'.isList.at fun o e => hk q o e) (Nat.succ_ne_self _) (Nat.ne_of_lt (Nat.lt_succ_of_lt hql)) (Nat.ne_of_lt hql) (by simpa using (rv.length ▸ hz)) fun h2 tk acc c as hk2 hS hl hG hacc => ?_
        have hk3 : ∀ b o, s1.heap.get? b = some o → h2.get? b = some o := fun b o e => by
          have hb := Heap.lt_size e
          exact hk2 b o (Nat.ne_of_lt (Nat.lt_succ_of_lt hb)) (Nat.ne_of_lt hb) (hk b o e)
        obtain ⟨H', e1, et, e2, e3, e4, e5, e6, e7, J⟩ := laidE (tk := tk) (kvs := numV vs) (vs := enumV its) I1 (by
            unfold numV; rw [List.length_map, List.length_zip, List.length_range, Nat.min_self]; exact hz) (by
            unfold numV enumV
            rw [← rv.length]
            exact kv_num id rv) (S := h'.objs.size) (by show s1.heap.objs.size ≤ h'.objs.size; rw [hsz]; exact Nat.le_add_right _ 2) hk3 hS (by rw [enumV_len]; simpa using hl) (by simpa using hG) hacc
        have alen : as.length = vs.length := by
          rw [rv.length]
          simpa using hl
        have lens := Paired.length e7
        refine ⟨.ref h'.objs.size, H', J, rfl, k h'.objs.size (as.map V.ref) (putT G1 as (numV vs)) H' ⟨g1.gg.trans (.of ?_), g1.hh.trans e1, ?_, fun b h1 h2 => ?_, fun t => et (g1.tb t)⟩ ?_ ?_ e6 ?_⟩
        · exact fun b u e => by
            rw [putT_off as _ _ (fun z => by rw [g1.gh.free (e3 b z)] at e; cases e)]
            exact e
        · intro b u e
          by_cases hb : b ∈ as
          · have pG := putT_at as (numV vs) G1 lens e5
            obtain ⟨j, q1, z1, z2, z3⟩ := paired_ix pG hb
            obtain ⟨q2, w1, w2⟩ := LiI.paired_get e7 z1
            rw [z2] at w1
            cases w1
            rw [z3] at e
            cases e
            exact w2
          · rw [putT_off as _ _ hb] at e
            exact g1.gh.trans e1 _ _ e
        · have hb : b ∉ as := fun z => h1 (by
            cases hq : H b with
            | none => rfl
            | some o =>
              exact absurd (e3 b z) (g1.hh b o hq).isSome)
          rw [putT_off as _ _ hb]
          exact g1.ap b h1 h2
        · cases hq : H h'.objs.size with
          | none => rfl
          | some o => exact absurd e2 (g1.hh _ o hq).isSome
        · rw [putT_off as _ _ e4]
          exact g1.gh.free e2
        · unfold numD
          rw [← dda_len rd1]
          have pG := putT_at as (numV vs) G1 lens e5
          have gG : Ex G1 (putT G1 as (numV vs)) := .of fun b u e => by
            rw [putT_off as _ _ (fun z => by rw [g1.gh.free (e3 b z)] at e; cases e)]
            exact e
          refine dda_num gG rd1 (by rw [List.length_range]) alen fun j t ht i v hi hv => ?_
          obtain ⟨q1, z1, z2⟩ := LiI.paired_get pG ht
          have hi2 : i = j := by
            have hl : j < vs.length := (List.getElem?_eq_some_iff.mp hv).1
            rw [List.getElem?_range hl] at hi
            exact (Option.some.inj hi).symm
          subst hi2
          rw [num_get z1 hv] at z2
          exact z2
end C9
set_option Elab.async false
set_option linter.all false
set_option maxRecDepth 100000
set_option maxHeartbeats 1000000
namespace C9
open PySem PySem.Spec PyProof.Rows L2
section
variable {X : Cx} {δ : List Sl} {E : En} {rest : List Stmt}
/-- x not in l: l a list of one's own -/
theorem td_notInOwn {i : Nat} {x : Str} {px pos : Pos} {a : Expr} {d : PyData} {ds : List PyData} (hd : δ[i]? = some (.own ds)) (hu : X.A.units + 65 < cLine) (s1 : SeqAt.shaped d = true) (s2 : SeqAt.shaped (.list ds) = true) (ha : ED X δ a d) (hN : X.N[i]? = some x := by rfl) (hv : Vis X.env.scope x := by first | exact Or.inl rfl | exact Or.inr (Or.inl rfl) | exact Or.inr (Or.inr rfl))
    (h1 : (x == ("__debug__" : Str)) = false := by decide) (h2 : (x == ("__classdict__" : Str)) = false := by decide) : TD X δ (.Compare a [.NotIn] [.Name x px] pos) (!ds.any fun z => PyData.eqv z d) :=
  TD.of (pt_cmpR (op_notInD hu) pe_rd (pe_var hN hv h1 h2) (by rfl)) fun B σ G H Q rs k => ha B σ G H _ rs fun v G1 H1 g1 d1 => by
    obtain ⟨o, eo, l, xs, rfl, q1, q2, q3, q4⟩ := (rs.grow g1).get hd
    exact ⟨.ref l, eo, d, ds, (dd_ex g1.gh d1).dp, .lst (.inl (.inl q3)) (dda_ex g1.gh q4).dp, s1, s2, _, rfl, k G1 H1 g1⟩
/-- a, b = [..], [..]: both lists of one's own -/
theorem RS.own {W : Pw} {B : Bs} {σ : L2.St} {G H : Hp} {i : Nat} {l : Addr} {vs : List V} {ds : List PyData} (rs : RS W B δ σ G H) (hG : G l = none) (hB : B.h l = none) (hH : H l = some (.lst vs)) (r : DdAll G vs ds) (no : ∀ (j : Nat) (y : Sl), δ[j]? = some y → y.mu = true → σ[j]? = some (some (.ref l)) → False) : RS W B (δ.set i (.own ds)) (σ.set i (some (.ref l))) G H :=
  rs.put rs.gr (Ex.refl _) (fun _ _ _ _ _ _ q => q) ⟨l, vs, rfl, hG, hB, hH, r⟩ fun _ j y a _ e1 m ea s1 => by cases ea; exact no j y e1 m s1
theorem RS.apart {W : Pw} {B : Bs} {σ : L2.St} {G H : Hp} {l : Addr} (rs : RS W B δ σ G H) (h : H l = none) (j : Nat) (y : Sl) (e1 : δ[j]? = some y) (m : y.mu = true) (s1 : σ[j]? = some (some (.ref l))) : False := by
  have q := rs.sl j y _ e1 s1
  cases y with
  | own _ => obtain ⟨l', _, e2, _, _, h3, _⟩ := q; cases e2; rw [h] at h3; cases h3
  | oat l' _ => obtain ⟨_, e2, _, _, h3, _⟩ := q; cases e2; rw [h] at h3; cases h3
  | dct _ => obtain ⟨l', _, e2, _, _, h3, _⟩ := q; cases e2; rw [h] at h3; cases h3
  | _ => cases m
theorem sd_parL {i j : Nat} {x y : Str} {a b : Expr} {pos : Pos} {d1 d2 : List PyData} {px py tp pt2 : Pos} {kk k2 : Nat} (ha : LD X δ a d1) (hb : LD X δ b d2) (k : SD X ((δ.set i (.own d1)).set j (.own d2)) rest E) (hc : X.calm = true := by rfl) (hN : X.N.Nodup := by assumption) (hij : i ≠ j := by decide)
    (hi : X.N[i]? = some x := by rfl) (hj : X.N[j]? = some y := by rfl) (hx : X.env.scope.names.lookup x = some .local := by rfl) (hy : X.env.scope.names.lookup y = some .local := by rfl)
    (hs1 : starEach [a, b] X.env = (false, eval a X.env) :: starEach [b] X.env := by rfl) (hs2 : starEach [b] X.env = (false, eval b X.env) :: starEach [] X.env := by rfl)
    (hw : swappedStores [.Tuple [.Name x px, .Name y py] kk tp] (.Tuple [a, b] k2 pt2) X.env = pure (some [x, y]) := by rfl)
    (hs : swapsWithSole [.Tuple [.Name x px, .Name y py] kk tp] (.Tuple [a, b] k2 pt2) pos.line X.env = pure false := by rfl) :
    SD X δ (.Assign [.Tuple [.Name x px, .Name y py] kk tp] (.Tuple [a, b] k2 pt2) pos :: rest) E :=
  sd_cons (ps_par hc hN hi hj hij hx hy (pa_cons pe_rd (pa_cons pe_rd pa_nil hs2) hs1) hw hs) fun B σ G H D rs f => ha B σ G H _ rs fun l vs G1 H1 g1 f1 f2 f3 e1 => hb B σ G1 H1 _ (rs.grow g1) fun l' vs' G2 H2 g2 f1' f2' f3' e2 => by
    refine ⟨.ref l, .ref l', rfl, k B _ G2 H2 D ?_ f⟩
    have r0 := (rs.grow g1).grow g2
    have hl : l ≠ l' := fun z => by rw [z, f1'] at f3; cases f3
    have r1 : RS (pw X) B (δ.set i (.own d1)) (σ.set i (some (.ref l))) G2 H2 := r0.own (g2.ap l (by rw [f3]; simp) f2) (rs.gr.hh.free f1) (g2.hh _ _ f3) (dda_ex g2.gg e1) fun j' y' q1 q2 q3 => rs.apart f1 j' y' q1 q2 q3
    refine r1.own f2' ((rs.grow g1).gr.hh.free f1') f3' e2 fun j' y' q1 q2 q3 => ?_
    by_cases hji : i = j'
    · subst hji
      have hlen : i < (σ.set i (some (V.ref l))).length := (List.getElem?_eq_some_iff.mp q3).1
      rw [List.length_set] at hlen
      rw [List.getElem?_set_self hlen] at q3
      exact hl (by cases q3; rfl)
    · rw [List.getElem?_set_ne hji] at q1 q3
      exact (rs.grow g1).apart f1' j' y' q1 q2 q3
end
/-- f(faint=.., most=.., number=..) -/
theorem ed_kw {X : Cx} {δ : List Sl} {j n : Nat} {x : Str} {R : List PyData → PyData → Prop} {e1 e2 e3 : Expr} {p k1 k2 k3 pos : Pos} {d1 d2 d3 d : PyData} (k : Nat) (D : Def X.prog X.w X.K X.mg X.base j x n R) (hr0 : Room k X.A) (hG : X.A.guards = some []) (h1 : ED X δ e1 d1) (h2 : ED X δ e2 d2) (h3 : ED X δ e3 d3) (hR : R [d3, d2, d1] d)
    (hjk : j ≤ k := by decide) (hg : Gl X x := by rfl) (hdb : (x == ("__debug__" : Str)) = false := by decide) (hx : kwName x = true := by decide) :
    ED X δ (.Call (.Name x p) [] [⟨some "faint", e1, k1⟩, ⟨some "most", e2, k2⟩, ⟨some "number", e3, k3⟩] pos) d := fun B σ G H Q rs kk pins s I => by
  obtain ⟨f, fd, ps, F, hm, hk, hb, hn, hkw⟩ := D.ex
  obtain ⟨eps, hkw⟩ := hkw hx
  have hr := hr0.mono hjk
  refine wpAny_Call_Name_kw (ld_glob I hg hm ?_ hdb)
  refine PySem.W.callWith_KW0 (h₀ := X.base) I.ok.mod.kin hk (by rfl) ?_ (by rfl)
  refine thn ((pk_cons pe_rd (pk_cons pe_rd (pk_cons pe_rd pk_nil))).run pos pins s σ H (fun vs H1 => ∃ v1 v2 v3 G1, vs = [v1, v2, v3] ∧ Gr G H G1 H1 ∧ Dd G1 v1 d1 ∧ Dd G1 v2 d2 ∧ Dd G1 v3 d3) I ?_) fun us s1 ⟨vs, H1, I1, r, v1, v2, v3, G1, evs, g1, a1, a2, a3⟩ => ⟨I1.kIn, ?_⟩
  · exact h1 B σ G H _ rs fun v1 G1 H1 g1 a1 => h2 B σ G1 H1 _ (rs.grow g1) fun v2 G2 H2 g2 a2 => h3 B σ G2 H2 _ ((rs.grow g1).grow g2) fun v3 G3 H3 g3 a3 => ⟨v1, v2, v3, G3, rfl, (g1.trans g2).trans g3, dd_ex (g2.gg.trans g3.gg) a1, dd_ex g3.gg a2, a3⟩
  · subst evs
    cases r with
    | cons r1 r =>
      cases r with
      | cons r2 r =>
        cases r with
        | cons r3 r =>
          cases r
          exact run_fnG (vs := [v3, v2, v1]) F hG hr (.of_eq (hkw _ _ _)) I1 (.cons r3 (.cons r2 (.cons r1 .nil))) ⟨(rs.grow g1).tab.gr (rs.grow g1).gr, G1, [d3, d2, d1], d, g1.gh, .cons a3 (.cons a2 (.cons a1 .nil)), hR, fun v G2 H2 g2 d2 => kk v G2 H2 (g1.trans g2) d2⟩
end C9
set_option Elab.async false
set_option linter.all false
set_option maxRecDepth 100000
set_option maxHeartbeats 2000000
namespace C9
open PySem PySem.Spec PyProof.Rows L2
/-! ### the one lambda: (len(x), x) -/
abbrev lamBody (x : Str) (p1 p2 p3 p4 p5 : Pos) (k : Nat) : Expr := .Tuple [.Call (.Name "len" p1) [.Name x p2] [] p3, .Name x p4] k p5
theorem lam_turn {prog : Program} {w : World} {A : Around} {s : Shared} {f c' a : Addr} {q x : Str} {params : Arguments} {scope : Scope} {p1 p2 p3 p4 p5 : Pos} {k : Nat} {pm ctv : Value} {mg mb : Str → Option Value} {vs : Array Value} {ds : List PyData}
    (hroom : A.depth < recursionLimit) (ho : s.heap.get? f = some (PySem.W.kla_obj "<lambda>" q params (lamBody x p1 p2 p3 p4 p5 k) scope [] pm c' ctv)) (hcd : s.heap.CodeRec (.ref c') q) (hg : s.heap.Ns mainGlobals mg) (hm : mg "len" = none) (hb : s.heap.Ns builtinsNs mb) (hmb : mb "len" = some (.builtin "len"))
    (hlim : s.heap.NoLimit) (ht : IsTup s.heap a vs) (hr : ReadsAll s.heap vs.toList ds []) (hz : vs.size ≤ 100000)
    (hbind : ∀ v cl pm cv ctv, bindArgs (PySem.W.kla_fn "<lambda>" q params (lamBody x p1 p2 p3 p4 p5 k) scope cl pm cv ctv) ⟨[v], []⟩ = pure [(x, v)]) (hk : scope.kind = .function) (hco : scope.isCoroutine = false) (hgen : scope.isGenerator = false) (hcell : ∀ y ∈ scope.names, y.2 ≠ .cell)
    (hx : scope.names.lookup x = some .local) (hl : scope.names.lookup ("len" : Str) = some .globalImplicit) (hd : (x == ("__debug__" : Str)) = false) :
    wpAny (model prog w) A (call (.ref f) [.ref a]) (PySem.W.KeyPure (.tuple [.int (vs.size : Int), .tuple ds]) s) (fun _ _ => False) s := by
  refine wpAny_call (codeAny_mono (R := fun r s' => match r with
    | .ok (.ret v) => PySem.W.KeyPure (.tuple [.int (vs.size : Int), .tuple ds]) s v s'
    | _ => False) ?_ fun r s' h => ?_)
  · refine PySem.W.kla_callFunE hroom ho rfl hco hgen rfl hcd ?_
    rw [hbind]
    refine wpAny_pure (wpAny_newFunctionEnv hcell (fun y hy => by rw [List.mem_singleton.mp hy]; exact hx) (fun h₁ hns hsb => ⟨hlim.fresh _ hsb, ?_⟩) hk)
    have kp : ∀ b o, s.heap.get? b = some o → h₁.get? b = some o := fun b o e => hsb.extBut b o (Nat.ne_of_lt (Heap.lt_size e)) (Heap.get?_push_of_some _ e)
    refine PySem.W.kla_codeExpr ?_
    have ev1 : ∀ {E : Value → Shared → Prop} {Q : Value → Shared → Prop} {p : Pos} {tk : Nat}, Q (.ref a) { s with heap := h₁, toks := tk } → wpAny (model prog w) (A.deeper (PySem.W.envX q scope s.heap.objs.size f (.ref c') [])) (eval (.Name x p) (PySem.W.envX q scope s.heap.objs.size f (.ref c') [])) Q E { s with heap := h₁, toks := tk } := fun {E Q p tk} h =>
      wpAny_Name (wpAny_loadName_local hk hx hns (by show List.lookup x ([(x, Value.ref a)].reverse) = _; simp [List.lookup]) h) hd
    refine wpAny_Tuple_spliced ?_
    show wpAny _ _ (spliced ((false, eval (.Call (.Name "len" p1) [.Name x p2] [] p3) _) :: (false, _) :: [])) _ _ _
    have ht1 : IsTup h₁ a vs := by
      obtain ⟨o, e, r⟩ := ht
      exact ⟨o, kp _ _ e, r⟩
    refine Calls.spliced_cons (wpAny_Call_Name_kw (Calls.Name_function_global hk hl (Calls.loadGlobal_builtin (hg.keeps kp) hm (hb.keeps kp) hmb (PyProof.Rows.callWith_builtin1 (args_cons (ev1 (args_nil (len_tuple (s := { s with heap := h₁, toks := s.toks + 1 }) ht1 (by omega) ?_))) rfl) rfl rfl)) (by decide)))
    refine Calls.spliced_cons (ev1 (Calls.spliced_nil ⟨by show 2 ≤ sizeLine; decide, _, _, rfl, fun b o e => Heap.get?_push_of_some _ (kp b o e), ?_⟩))
    have kp2 : ∀ b o, s.heap.get? b = some o → (h₁.push { cls := .type "tuple", data := .seq [Value.int (vs.size : Int) (s.toks + 1 + 1), Value.ref a].toArray }).get? b = some o := fun b o e => Heap.get?_push_of_some _ (kp b o e)
    obtain ⟨o, e, hc, n, hdt⟩ := ht
    refine Reads.tuple (as := []) (Heap.get?_push_size _ rfl) rfl rfl ?_
    exact ReadsAll.cons (as := []) (bs := []) (.int _ _) (ReadsAll.cons (as := []) (bs := []) (Reads.tuple (kp2 _ _ e) hc hdt (ReadsAll.keeps kp2 hr)) .nil)
  · cases r with
    | error e => exact h.elim
    | ok fl =>
      cases fl with
      | ret v => exact h
      | next => exact h.elim
      | brk => exact h.elim
      | cont => exact h.elim
end C9
set_option Elab.async false
set_option linter.all false
set_option maxRecDepth 100000
set_option maxHeartbeats 2000000
namespace C9
open PySem PySem.Spec PyProof.Rows L2 LamX
/-- the lambda is made: what is tracked then, told whole -/
theorem lam_mk {X : Cx} {pins : List (Addr × Obj)} {σ : L2.St} {G H : Hp} {s : Shared} {c P : Addr} {params : Arguments} {body : Expr} {scope : Scope} {pos : Pos} {E : Value → Shared → Prop} {Q : Value → Shared → Prop} (I : Inv X pins σ H s) (gh : Ex G H) (TB : TabB X.base X.mg c P) (hcode : X.env.code = .ref c)
    (hq : X.env.qual ++ "<lambda>" = lamQ) (hT : TabInv H) (hP : ∃ ps, H P = some (.tbl ps)) (hdef : defaultsOf params X.env = ([], [])) (hcl : cloFrom X.env.cells scope.names [] = []) (hfree : ∀ y ∈ scope.names, y.2 = .free → ∃ c, X.env.cells.lookup y.1 = some c)
    (h : ∀ (f c' : Addr) (pm ctv : Value) (H1 : Hp) (s' : Shared), Inv X pins σ H1 s' → Gr G H G H1 → s'.heap.get? f = some (PySem.W.kla_obj "<lambda>" lamQ params body scope [] pm c' ctv) → H1 c' = some (CodeO c' lamQ) → Q (.ref f) s') :
    wpAny (model X.prog X.w) X.A (eval (.Lambda params body scope pos) X.env) Q E s := by
  obtain ⟨ps, hP⟩ := hP
  obtain ⟨ht, ha⟩ := hT P ps hP
  refine PySem.W.kla_eval hdef ?_
  rw [hq]
  have bP : s.heap.BuiltinsAt X.mg P := TB.bm.keeps I.bk
  have atP : s.heap.get? P = some { cls := .none, data := .fields ps } := I.hok P _ hP
  cases hc : codeAmong pos ps.toList with
  | none =>
    refine PySem.W.kla_makeFunction (mg := X.mg) (c := c) (P := P) (ps := ps) (closure_ok hfree) I.ok.glob (I.mod.glob.keeps I.bk) hcode (TB.code.keeps I.bk) atP ht hc TB.gP bP fun c' ctv h' tk hx hge hlt hrec htb => ?_
    rw [hcl]
    obtain ⟨c2, oc, vs, t, e2, hoc, hd, hv⟩ := hrec
    cases e2
    have nC : H c' = none := I.hok.fresh hge
    have nPc : P ≠ c' := ne_of_none hP nC
    have I1 := inv_table (q := lamQ) (t' := tk) (more := #[rawInt pos.line, rawInt pos.col, .ref c']) (h' := h'.push (PySem.W.kla_obj "<lambda>" lamQ params body scope [] ((X.mg "__name__").getD .none) c' ctv)) I hP
      (fun b o hb e => Heap.get?_push_of_some _ (hx b o hb e)) (Heap.get?_push_of_some _ htb) hge ⟨oc, vs, t, Heap.get?_push_of_some _ hoc, hd, hv⟩
    have old : ∀ b o, H b = some o → b ≠ P → upd (upd H P (.tbl (ps ++ #[rawInt pos.line, rawInt pos.col, .ref c']))) c' (CodeO c' lamQ) b = some o := fun b o e n => by
      rw [upd_ne (ne_of_none e nC), upd_ne n]
      exact e
    have newP : upd (upd H P (.tbl (ps ++ #[rawInt pos.line, rawInt pos.col, .ref c']))) c' (CodeO c' lamQ) P = some (.tbl (ps ++ #[rawInt pos.line, rawInt pos.col, .ref c'])) := by rw [upd_ne nPc, upd_same]
    have grow : ∀ {J : Hp}, Ex J H → Ex J (upd (upd H P (.tbl (ps ++ #[rawInt pos.line, rawInt pos.col, .ref c']))) c' (CodeO c' lamQ)) := fun {J} e => e.trans fun b o q => by
      by_cases hb : b = P
      · subst hb
        rw [hP] at q
        cases q
        exact ⟨_, newP⟩
      · exact .of (old b o q hb)
    refine h h'.objs.size c' ((X.mg "__name__").getD .none) ctv _ _ I1 ⟨Ex.refl _, grow (Ex.refl _), grow gh, fun _ _ q => q, fun _ P' ps' e => ?_⟩ (Heap.get?_push_size _ rfl) upd_same
    have keepC : ∀ c0, H c0 = some (CodeO c0 lamQ) → upd (upd H P (.tbl (ps ++ #[rawInt pos.line, rawInt pos.col, .ref c']))) c' (CodeO c' lamQ) c0 = some (CodeO c0 lamQ) := fun c0 q => old c0 _ q fun z => by
      rw [z, hP] at q
      exact codeO_ne ps (Option.some.inj q).symm
    by_cases hP' : P' = P
    · subst hP'
      rw [newP] at e
      cases e
      have eL : (ps ++ #[rawInt pos.line, rawInt pos.col, .ref c']).toList = ps.toList ++ [rawInt pos.line, rawInt pos.col, .ref c'] := by simp
      rw [eL]
      refine ⟨PySem.TriplesOk_snoc _ _ _ _ ht, fun p' cv hcv => ?_⟩
      rcases among_app _ ht hcv with z | z
      · obtain ⟨c0, e1, e2⟩ := ha p' cv z
        exact ⟨c0, e1, keepC c0 e2⟩
      · exact ⟨c', z, upd_same⟩
    · have hPc : P' ≠ c' := fun z => by
        rw [z, upd_same] at e
        exact codeO_ne ps' (Option.some.inj e)
      rw [upd_ne hPc, upd_ne hP'] at e
      obtain ⟨a, b⟩ := hT P' ps' e
      refine ⟨a, fun p' cv hcv => ?_⟩
      obtain ⟨c0, e1, e2⟩ := b p' cv hcv
      exact ⟨c0, e1, keepC c0 e2⟩
  | some cv =>
    obtain ⟨c', e, hco⟩ := ha pos cv hc
    subst e
    refine PySem.W.kla_makeFunctionHit (mg := X.mg) (c := c) (P := P) (ps := ps) (closure_ok hfree) I.ok.glob (I.mod.glob.keeps I.bk) hcode (TB.code.keeps I.bk) atP ht hc bP fun ctv h' tk hx hsz => ?_
    rw [hcl]
    have I1 : Inv X pins σ H { s with heap := h'.push (PySem.W.kla_obj "<lambda>" lamQ params body scope [] ((X.mg "__name__").getD .none) c' ctv), toks := tk } := I.kept fun b o e => Heap.get?_push_of_some _ (hx b o e)
    exact h h'.objs.size c' ((X.mg "__name__").getD .none) ctv H _ I1 (Gr.refl gh) (Heap.get?_push_size _ rfl) hco
end C9
set_option Elab.async false
set_option linter.all false
set_option maxRecDepth 100000
set_option maxHeartbeats 2000000
namespace C9
open PySem PySem.Spec PyProof.Rows L2
/-! ### wide ints -/
def CPowW (i j : Int) : Prop := 0 ≤ j ∧ (Builtin.Int.intBits i : Int) * j ≤ 2 ^ 27
theorem op_powW {X : Cx} : OpR X (binaryOp .Pow) (rI CPowW fun i j => .int (i ^ j.toNat)) := opI fun _ _ _ _ _ _ _ hc q => pow_int hc.1 hc.2 q
section
variable {X : Cx} {δ : List Sl} {a b e : Expr} {pos p : Pos} {rest : List Stmt} {E : En}
theorem ed_mod {i j : Int} (hc : 0 < j) (ha : ED X δ a (.int i)) (hb : ED X δ b (.int j)) : ED X δ (.BinOp a .Mod b pos) (.int (i % j)) := ed_I (C := fun _ j => 0 < j) (g := fun i j => i % j) op_mod hc ha hb
theorem ed_fdivW {i j : Int} (hc : CDivW i j) (ha : ED X δ a (.int i)) (hb : ED X δ b (.int j)) : ED X δ (.BinOp a .FloorDiv b pos) (.int (i / j)) := ed_I (g := fun i j => i / j) op_fdivW hc ha hb
theorem ed_powW {i j : Int} (hc : CPowW i j) (ha : ED X δ a (.int i)) (hb : ED X δ b (.int j)) : ED X δ (.BinOp a .Pow b pos) (.int (i ^ j.toNat)) := ed_I (g := fun i j => i ^ j.toNat) op_powW hc ha hb
theorem ed_abs {i : Int} (ha : ED X δ a (.int i)) (hm : X.mg "abs" = none) (hg : Gl X "abs" := by rfl) (hs : starEach [a] X.env = (false, eval a X.env) :: starEach [] X.env := by rfl) : ED X δ (.Call (.Name "abs" p) [a] [] pos) (.int (if i < 0 then -i else i)) :=
  ED.of (pe_callB call_abs hg hm (by decide +kernel) (pa_cons pe_rd pa_nil hs) (by decide) (by decide) hs) fun B σ G H Q rs k => ha B σ G H _ rs fun v G1 H1 g1 d1 => by
    cases d1
    exact ⟨i, rfl, k _ G1 H1 g1 (.int _)⟩
theorem ed_intOf {i : Int} (ha : ED X δ a (.int i)) (hm : X.mg "int" = none) (hg : Gl X "int" := by rfl) (hs : starEach [a] X.env = (false, eval a X.env) :: starEach [] X.env := by rfl) : ED X δ (.Call (.Name "int" p) [a] [] pos) (.int i) :=
  ED.of (pe_callTy call_int1 hg hm (by decide +kernel) (pa_cons pe_rd pa_nil hs) (by decide) (by decide) hs) fun B σ G H Q rs k => ha B σ G H _ rs fun v G1 H1 g1 d1 => by
    cases d1
    exact .inl ⟨i, rfl, k _ G1 H1 g1 (.int _)⟩
/-! ### a list at a known place -/
theorem ed_ixAt {i : Nat} {l : Addr} {x : Str} {px : Pos} {k : Int} {d : PyData} {ds : List PyData} (hd : δ[i]? = some (.oat l ds)) (he : atI ds k = some d) (hb : ED X δ b (.int k)) (hN : X.N[i]? = some x := by rfl) (hv : Vis X.env.scope x := by first | exact Or.inl rfl | exact Or.inr (Or.inl rfl) | exact Or.inr (Or.inr rfl))
    (h1 : (x == ("__debug__" : Str)) = false := by decide) (h2 : (x == ("__classdict__" : Str)) = false := by decide) (hs : PlainIx b := by intro _ _; rfl) : ED X δ (.Subscript (.Name x px) b pos) d :=
  ED.of (pe_ix ix_list (pe_var hN hv h1 h2) pe_rd hs) fun B σ G H Q rs kk => by
    obtain ⟨o, eo, vs, rfl, q1, q2, q3, q4⟩ := rs.get hd
    refine ⟨.ref l, eo, hb B σ G H _ rs fun u G1 H1 g1 d1 => ?_⟩
    cases d1
    obtain ⟨w, ew, dw⟩ := dda_at q4 he
    exact ⟨l, vs, k, w, rfl, rfl, .inl (.inl (g1.hh _ _ q3)), ew, kk w G1 H1 g1 (dd_ex g1.gg dw)⟩
theorem RS.write {W : Pw} {B : Bs} {σ : L2.St} {G H : Hp} {i : Nat} {l : Addr} {x' : Sl} {vs vs' : List V} {ds' : List PyData} (rs : RS W B δ σ G H) {x : Sl} (hx : δ[i]? = some x) (hm : x.mu = true) (eo : σ[i]? = some (some (.ref l))) (q1 : G l = none) (q2 : B.h l = none) (q3 : H l = some (.lst vs)) (hx' : x' = .own ds' ∨ x' = .oat l ds') (r : DdAll G vs' ds') :
    RS W B (δ.set i x') σ G (upd H l (.lst vs')) := by
  have hi : i < σ.length := (List.getElem?_eq_some_iff.mp eo).1
  have es : σ.set i (some (.ref l)) = σ := by
    have q := (List.getElem?_eq_some_iff.mp eo).2
    rw [← q]
    exact List.set_getElem_self hi
  have up : ∀ {J : Hp}, J l = none → Ex J H → Ex J (upd H l (.lst vs')) := fun {J} n e a o q => by
    rw [upd_ne (fun z => by rw [z, n] at q; cases q)]
    exact e a o q
  have r2 := rs.put (i := i) (x := x') (o := some (.ref l)) (G' := G) (H' := upd H l (.lst vs')) ⟨rs.gr.gg, up q2 rs.gr.hh, up q1 rs.ex, rs.gr.ap, fun t => (rs.gr.tb t).lst q3⟩ (Ex.refl _)
    (fun j y hj e1 p s1 q => by
      cases y with
      | no => trivial
      | val d => exact q
      | own ds' =>
        obtain ⟨l', vs', w1, w2, w3, w4, w5⟩ := q
        have hn : l' ≠ l := fun z => rs.ap j i (.own ds') x l hj e1 hx rfl hm (by rw [s1, w1, z]) eo
        exact ⟨l', vs', w1, w2, w3, by rw [upd_ne hn]; exact w4, w5⟩
      | oat l' ds' =>
        obtain ⟨vs', w1, w2, w3, w4, w5⟩ := q
        have hn : l' ≠ l := fun z => rs.ap j i (.oat l' ds') x l hj e1 hx rfl hm (by rw [s1, w1, z]) eo
        exact ⟨vs', w1, w2, w3, by rw [upd_ne hn]; exact w4, w5⟩
      | dct ds' =>
        obtain ⟨l', vs', w1, w2, w3, w4, w5⟩ := q
        have hn : l' ≠ l := fun z => rs.ap j i (.dct ds') x l hj e1 hx rfl hm (by rw [s1, w1, z]) eo
        exact ⟨l', vs', w1, w2, w3, by rw [upd_ne hn]; exact w4, w5⟩
      | fdc kvs => exact q)
    (by
      rcases hx' with z | z
      · rw [z]; exact ⟨l, vs', rfl, q1, q2, upd_same, r⟩
      · rw [z]; exact ⟨vs', rfl, q1, q2, upd_same, r⟩)
    (fun _ j y a hj e1 m ea s1 => rs.ap j i y x a hj e1 hx m hm s1 (by rw [eo, ea]))
  rw [es] at r2
  exact r2
theorem dda_set {G : Hp} : ∀ {vs : List V} {ds : List PyData} {v : V} {d : PyData} (j : Nat), DdAll G vs ds → Dd G v d → DdAll G (vs.set j v) (ds.set j d)
  | _, _, _, _, _, .nil, _ => by simpa using .nil
  | _, _, _, _, 0, .cons _ r, d => .cons d r
  | _, _, _, _, j + 1, .cons h r, d => .cons h (dda_set j r d)
/-- x[b] = e -/
theorem sd_item {i : Nat} {l : Addr} {x : Str} {px sp : Pos} {k : Int} {j : Nat} {d : PyData} {ds : List PyData} (hd : δ[i]? = some (.oat l ds)) (hj : ixN ds.length k = some j) (he : ED X δ e d) (hb : ED X δ b (.int k)) (kk : SD X (δ.set i (.oat l (ds.set j d))) rest E) (hN : X.N[i]? = some x := by rfl) (hv : Vis X.env.scope x := by first | exact Or.inl rfl | exact Or.inr (Or.inl rfl) | exact Or.inr (Or.inr rfl))
    (h1 : (x == ("__debug__" : Str)) = false := by decide) (h2 : (x == ("__classdict__" : Str)) = false := by decide)
    (ha : ∀ v, assign (.Subscript (.Name x px) b sp) X.env v = (do
      let ov ← holding [v] (eval (.Name x px) X.env)
      let iv ← holding [v, ov] (eval b X.env)
      standAt sp
      holding [v, ov, iv] (setItem ov iv v)
      release [v, ov, iv] []) := by intro _; rfl)
    (hs : swapsWithSole [.Subscript (.Name x px) b sp] e pos.line X.env = pure false := by rfl) (hw : swappedStores [.Subscript (.Name x px) b sp] e X.env = pure none := by rfl) (ha1 : (assignEach [.Subscript (.Name x px) b sp] X.env).map (·.2) = [assign (.Subscript (.Name x px) b sp) X.env] := by rfl) :
    SD X δ (.Assign [.Subscript (.Name x px) b sp] e pos :: rest) E :=
  sd_cons (ps_asg pe_rd (pg_sub (pe_var hN hv h1 h2) pe_rd set_list ha) hs hw ha1) fun B σ G H D rs f => he B σ G H _ rs fun v G1 H1 g1 d1 => by
    have rs1 := rs.grow g1
    obtain ⟨o, eo, vs, rfl, q1, q2, q3, q4⟩ := rs1.get hd
    refine ⟨.ref l, eo, hb B σ G1 H1 _ rs1 fun u G2 H2 g2 d2 => ?_⟩
    cases d2
    have rs2 := rs1.grow g2
    refine ⟨l, vs, k, j, rfl, rfl, g2.hh _ _ q3, by rw [dda_len q4]; exact hj, ?_⟩
    exact kk B σ _ _ D (rs2.write hd rfl eo (g2.ap l (by rw [q3]; simp) q1) q2 (g2.hh _ _ q3) (.inr rfl) (dda_set j (dda_ex g2.gg q4) (dd_ex g2.gg d1))) f
end
end C9
set_option Elab.async false
set_option linter.all false
set_option maxRecDepth 100000
set_option maxHeartbeats 2000000
namespace C9
open PySem PySem.Spec PyProof.Rows L2
/-- l left out -/
def rem (H : Hp) (l : Addr) : Hp := fun b => if b = l then none else H b
theorem rem_ne {H : Hp} {l b : Addr} (h : b ≠ l) : rem H l b = H b := if_neg h
theorem rem_same {H : Hp} {l : Addr} : rem H l l = none := if_pos rfl
theorem tabInv_rem {H : Hp} {l : Addr} {vs : List V} (t : TabInv H) (h : H l = some (.lst vs)) : TabInv (rem H l) := fun P ps e => by
  have hP : P ≠ l := fun z => by rw [z, rem_same] at e; cases e
  rw [rem_ne hP] at e
  obtain ⟨a, b⟩ := t P ps e
  refine ⟨a, fun pos cv hc => ?_⟩
  obtain ⟨c, e1, e2⟩ := b pos cv hc
  refine ⟨c, e1, ?_⟩
  rw [rem_ne (fun z => by rw [z, h] at e2; unfold LamX.CodeO at e2; cases e2)]
  exact e2
theorem tabInv_unrem {H : Hp} {l : Addr} {vs : List V} (t : TabInv (rem H l)) (h : H l = some (.lst vs)) : TabInv H := by
  have e : H = upd (rem H l) l (.lst vs) := by
    funext b
    by_cases hb : b = l
    · rw [hb, upd_same, h]
    · rw [upd_ne hb, rem_ne hb]
  rw [e]
  exact t.new rem_same trivial
theorem tabOk_rem {K : PySem.W.Frag} {mg : Str → Option Value} {base : Heap} {H : Hp} {l : Addr} {vs : List V} (t : TabOk K mg base H) (h : H l = some (.lst vs)) : TabOk K mg base (rem H l) := ⟨tabInv_rem t.1 h, fun P hP => by
  obtain ⟨ps, e⟩ := t.2 P hP
  exact ⟨ps, by rw [rem_ne (fun z => by rw [z, h] at e; cases e)]; exact e⟩⟩
theorem Ex.toRem {J H : Hp} {l : Addr} (e : Ex J H) (h : J l = none) : Ex J (rem H l) := fun a o q => by
  rw [rem_ne (fun z => by rw [z, h] at q; cases q)]
  exact e a o q
/-- what a draw asks, and what it gives -/
def spDraw (K : PySem.W.Frag) (mg : Str → Option Value) (base : Heap) (Dm : List PyData → Int → Prop) (Pt : List PyData → Int → List PyData → Int → Prop) : Sp := fun vs H Q _ => TabOk K mg base H ∧ ∃ (G : Hp) (l : Addr) (vsl : List V) (ds : List PyData) (n : Int), vs = [.ref l, .int n] ∧ H l = some (.lst vsl) ∧ G l = none ∧ Ex G H ∧ DdAll G vsl ds ∧ Dm ds n ∧
  ∀ (r : Int) (ds' : List PyData) (vsl' : List V) (G' H' : Hp), Pt ds n ds' r → Gr G (rem H l) G' H' → G' l = none → H' l = some (.lst vsl') → DdAll G' vsl' ds' → Q (.int r) H'
structure DefM (P : Program) (w : World) (K : PySem.W.Frag) (mg : Str → Option Value) (base : Heap) (k : Nat) (x : Str) (Dm : List PyData → Int → Prop) (Pt : List PyData → Int → List PyData → Int → Prop) : Prop where
  ex : ∃ (f : Addr) (fd : FuncData) (ps : List Str), FnG P w K mg base k f fd ps (spDraw K mg base Dm Pt) ∧ mg x = some (.ref f) ∧ PySem.W.keepIn K (.ref f) = true ∧ Binds K fd ps [] ∧ ps.length = 2
theorem defM_of {P : Program} {w : World} {K : PySem.W.Frag} {mg : Str → Option Value} {base : Heap} {k : Nat} {f : Addr} {fd : FuncData} {x qual name p1 p2 : Str} {st : Stmt} {N : List Str} {Dm : List PyData → Int → Prop} {Pt : List PyData → Int → List PyData → Int → Prop} (F : Fun K x qual st f fd) (S : FnScope N [p1, p2] (defScope st))
    (hm : mg name = some (.ref f)) (hb : Binds K fd [p1, p2] [])
    (body : ∀ (cdv : Value) (A : Around) (outer : List Env) (s : Shared) (H : Hp) (E : XK) (l : Addr) (ds : List PyData) (n : Int), ((cxOf CX0 P w K mg base N qual (defScope st) f cdv A outer s H E).nox).A.guards = some [] → Room k ((cxOf CX0 P w K mg base N qual (defScope st) f cdv A outer s H E).nox).A → Dm ds n →
      SD ((cxOf CX0 P w K mg base N qual (defScope st) f cdv A outer s H E).nox) (.oat l ds :: .val (.int n) :: List.replicate (N.length - 2) .no) (defBody st) { nx := fun _ => False, rt := fun δ' d => ∃ r ds', d = .int r ∧ Pt ds n ds' r ∧ δ'[0]? = some (.oat l ds') }) :
    DefM P w K mg base (k + 1) name Dm Pt := by
  refine ⟨f, fd, [p1, p2], fnG_of F S (fun vs H Q E h => ?_) fun cdv _ _ A outer s H vs Q E hg hr h => ?_, hm, F.kp, hb, rfl⟩
  · obtain ⟨_, G, l, vsl, ds, n, rfl, _⟩ := h
    rfl
  · obtain ⟨tb, G, l, vsl, ds, n, rfl, hl, gl, gh, dd, hD, q⟩ := h
    have hN : 2 ≤ N.length := by
      have := congrArg List.length S.pre
      rw [List.length_take] at this
      simp at this
      omega
    have eN : ∀ m, N.length = m + 2 → start N [V.ref l, V.int n] = some (.ref l) :: some (.int n) :: List.replicate m none := fun m hm => by
      unfold L2.start
      simp [hm]
    obtain ⟨m, hm2⟩ : ∃ m, N.length = m + 2 := ⟨N.length - 2, by omega⟩
    rw [eN m hm2]
    have e2 : N.length - 2 = m := by omega
    have B0 : RS (pw ((cxOf CX0 P w K mg base N qual (defScope st) f cdv A outer s H E).nox)) ⟨G, rem H l, G⟩ (.oat l ds :: .val (.int n) :: List.replicate (N.length - 2) .no) (some (.ref l) :: some (.int n) :: List.replicate m none) G H := by
      rw [e2]
      refine ⟨tabOk_rem tb hl, ⟨Ex.refl _, .of fun a o e => ?_, gh, fun _ _ h => h, fun t => tabInv_unrem t hl⟩, Ex.refl _, by simp, fun i x o h1 h2 => ?_, fun i j x y a hij h1 h2 m1 m2 _ _ => ?_⟩
      · have e' : rem H l a = some o := e
        have ha : a ≠ l := fun z => by rw [z, rem_same] at e'; cases e'
        rw [rem_ne ha] at e'
        exact e'
      · match i, h1, h2 with
        | 0, h1, h2 => cases h1; cases h2; exact ⟨vsl, rfl, gl, rem_same, hl, dd⟩
        | 1, h1, h2 => cases h1; cases h2; exact ⟨_, rfl, .int n⟩
        | i + 2, h1, h2 =>
          have h1' : (List.replicate m Sl.no)[i]? = some x := h1
          rw [List.getElem?_replicate] at h1'
          split at h1'
          · cases h1'; trivial
          · cases h1'
      · have no : ∀ {i : Nat} {x : Sl}, (Sl.oat l ds :: Sl.val (.int n) :: List.replicate m Sl.no)[i]? = some x → x.mu = true → i = 0 := fun {i x} h hm => by
          match i, h with
          | 0, _ => rfl
          | 1, h => cases h; cases hm
          | i + 2, h =>
            have h' : (List.replicate m Sl.no)[i]? = some x := h
            rw [List.getElem?_replicate] at h'
            split at h'
            · cases h'; cases hm
            · cases h'
        exact hij ((no h1 m1).trans (no h2 m2).symm)
    refine body cdv A outer s H E l ds n hg hr hD _ _ G H _ B0 ⟨fun _ _ _ _ z => z.elim, fun δ' d v σ' G' H' hd rs dv => ?_, fun _ _ _ _ z => z.elim, fun _ _ _ _ z => z.elim⟩
    obtain ⟨r, ds', rfl, hp, h0⟩ := hd
    obtain ⟨o, eo, vs', e1, e2, e3, e4, e5⟩ := rs.get h0
    cases dv
    exact q r ds' vs' G' H' hp rs.gr e2 e4 e5
/-! ### expressions that write a list of one's own -/
def MD (X : Cx) (δ : List Sl) (e : Expr) (Φ : List Sl → PyData → Prop) : Prop := ∀ (B : Bs) (σ : L2.St) (G H : Hp) (Q : VK), RS (pw X) B δ σ G H → (∀ δ' v d G' H', Φ δ' d → Ex G G' → RS (pw X) B δ' σ G' H' → Dd G' v d → Q v H') → rd X e σ H Q
section
variable {X : Cx} {δ : List Sl} {a b e : Expr} {pos p : Pos} {rest : List Stmt} {E : En} {Φ : List Sl → PyData → Prop}
theorem md_ed {d : PyData} (h : ED X δ e d) : MD X δ e (fun δ' d' => δ' = δ ∧ d' = d) := fun B σ G H Q rs k => h B σ G H Q rs fun v G' H' g dv => k δ v d G' H' ⟨rfl, rfl⟩ g.gg (rs.grow g) dv
theorem MD.mono {Ψ : List Sl → PyData → Prop} (h : MD X δ e Φ) (w : ∀ δ' d, Φ δ' d → Ψ δ' d) : MD X δ e Ψ := fun B σ G H Q rs k => h B σ G H Q rs fun δ' v d G' H' h1 => k δ' v d G' H' (w _ _ h1)
theorem md_add {i : Int} (ha : ED X δ a (.int i)) (hb : MD X δ b Φ) (hi : ∀ δ' d, Φ δ' d → ∃ j, d = .int j) : MD X δ (.BinOp a .Add b pos) (fun δ' d => ∃ j, Φ δ' (.int j) ∧ d = .int (i + j)) := fun B σ G H Q rs k pins s I =>
  (pe_op op_add (pe_rd (e := a)) (pe_rd (e := b))).run pins s σ H Q I (ha B σ G H _ rs fun v G1 H1 g1 d1 => hb B σ G1 H1 _ (rs.grow g1) fun δ' u d G2 H2 h e rs2 d2 => by
    obtain ⟨j, rfl⟩ := hi _ _ h
    cases d1; cases d2
    exact ⟨i, j, rfl, rfl, k δ' _ _ G2 H2 ⟨j, h, rfl⟩ (g1.gg.trans e) rs2 (.int _)⟩)
theorem md_ix {ds : List PyData} (ha : ED X δ a (.list ds)) (hb : MD X δ b Φ) (hi : ∀ δ' d, Φ δ' d → ∃ j c, d = .int j ∧ atI ds j = some c) (hs : PlainIx b := by intro _ _; rfl) : MD X δ (.Subscript a b pos) (fun δ' d => ∃ j, Φ δ' (.int j) ∧ atI ds j = some d) := fun B σ G H Q rs k pins s I =>
  (pe_ix ix_seq (pe_rd (e := a)) (pe_rd (e := b)) hs).run pins s σ H Q I (ha B σ G H _ rs fun v G1 H1 g1 d1 => hb B σ G1 H1 _ (rs.grow g1) fun δ' u d G2 H2 h e rs2 d2 => by
    obtain ⟨j, c, rfl, hc⟩ := hi _ _ h
    cases d2
    cases d1 with
    | @lst q vs _ h1 r1 =>
      obtain ⟨w, ew, dw⟩ := dda_at r1 hc
      exact .inl ⟨q, vs, j, w, rfl, rfl, .inl (.inl (rs2.ex _ _ (e _ _ h1))), ew, k δ' w c G2 H2 ⟨j, h, hc⟩ (g1.gg.trans e) rs2 (dd_ex e dw)⟩)
theorem sd_setM {i : Nat} {x : Str} {pos' : Pos} (he : MD X δ e Φ) (k : ∀ δ' d, Φ δ' d → SD X (δ'.set i (.val d)) rest E) (hN : X.N.Nodup := by assumption) (hi : X.N[i]? = some x := by rfl) (hx : Loc X.env.scope x := by first | exact Or.inl rfl | exact Or.inr rfl)
    (hs : swapsWith e (some (.Name x pos')) pos.line X.env = pure false := by rfl) (hf : X.fn x = true ∨ X.env.scope.names.lookup x = some .local := by first | exact .inl rfl | exact .inr rfl) : SD X δ (.Assign [.Name x pos'] e pos :: rest) E :=
  sd_cons (ps_set hN hi hx pe_rd hs hf) fun B σ G H D rs f => he B σ G H _ rs fun δ' v d G1 H1 h _ rs1 d1 => k δ' d h B _ G1 H1 D (rs1.set d1) f
/-- if M == i -/
theorem sd_ifM {i : Int} {body : List Stmt} {p2 : Pos} (he : MD X δ a Φ) (hb : ∀ δ', ED X δ' b (.int i)) (hi : ∀ δ' d, Φ δ' d → ∃ j, d = .int j) (hm : behindInMarks .Eq b = false) (k1 : ∀ δ', Φ δ' (.int i) → SD X δ' body { E with nx := fun δ2 => SD X δ2 rest E }) (k2 : ∀ δ' j, Φ δ' (.int j) → SD X δ' rest E) : SD X δ (.If (.Compare a [.Eq] [b] p2) body [] pos :: rest) E :=
  sd_cons (ps_if (pt_cmpR op_eq pe_rd pe_rd hm) pss_rd pss_nil) fun B σ G H D rs f => he B σ G H _ rs fun δ' v d G1 H1 h _ rs1 d1 => hb δ' B σ G1 H1 _ rs1 fun u G2 H2 g2 d2 => by
    obtain ⟨j, rfl⟩ := hi _ _ h
    cases d1; cases d2
    have rs2 := rs1.grow g2
    refine ⟨rfl, _, rfl, ?_⟩
    by_cases hij : j = i
    · subst hij
      have e : decide ((V.int j) = V.int j) = true := decide_eq_true rfl
      rw [e]
      exact k1 δ' h B σ G2 H2 _ rs2 ⟨fun δ2 σ2 G3 H3 h3 rs3 => h3 B σ2 G3 H3 D rs3 f, f.rt, f.bk, f.ct⟩
    · have e : decide ((V.int j) = V.int i) = false := decide_eq_false (fun z => hij (by cases z; rfl))
      rw [e]
      exact k2 δ' j h B σ G2 H2 D rs2 f
theorem RS.swap {W : Pw} {B : Bs} {δ : List Sl} {σ : L2.St} {G H G' H' : Hp} {i : Nat} {l : Addr} {ds ds' : List PyData} {vs' : List V} (rs : RS W B δ σ G H) (hd : δ[i]? = some (.own ds)) (eo : σ[i]? = some (some (.ref l))) (g : Gr G (rem H l) G' H') (h1 : G' l = none) (h2 : H' l = some (.lst vs')) (r : DdAll G' vs' ds') : RS W B (δ.set i (.own ds')) σ G' H' := by
  have hi : i < σ.length := (List.getElem?_eq_some_iff.mp eo).1
  have es : σ.set i (some (.ref l)) = σ := by
    have q := (List.getElem?_eq_some_iff.mp eo).2
    rw [← q]
    exact List.set_getElem_self hi
  obtain ⟨o, e0, l0, vs, e1, q1, q2, q3, q4⟩ := rs.get hd
  rw [eo] at e0
  cases e0
  cases e1
  have nb : ∀ b, B.h b ≠ none → b ≠ l := fun b hb z => hb (by rw [z]; exact q2)
  have r2 := rs.put (i := i) (x := .own ds') (o := some (.ref l)) (G' := G') (H' := H')
    ⟨rs.gr.gg.trans g.gg, (rs.gr.hh.toRem q2).trans g.hh, g.gh, fun b n1 n2 => g.ap b (fun z => by
        rw [rem_ne (nb b n1)] at z
        exact n1 (rs.gr.hh.free z)) (rs.gr.ap b n1 n2), fun t => g.tb (tabInv_rem (rs.gr.tb t) q3)⟩ g.gg
    (fun j y hj e1 p s1 q => by
      refine SlOk.gr g ?_
      cases y with
      | no => trivial
      | val d => exact q
      | own ds' =>
        obtain ⟨l', vs', w1, w2, w3, w4, w5⟩ := q
        have hn : l' ≠ l := fun z => rs.ap j i (.own ds') (.own ds) l hj e1 hd rfl rfl (by rw [s1, w1, z]) eo
        exact ⟨l', vs', w1, w2, w3, by rw [rem_ne hn]; exact w4, w5⟩
      | oat l' ds' =>
        obtain ⟨vs', w1, w2, w3, w4, w5⟩ := q
        have hn : l' ≠ l := fun z => rs.ap j i (.oat l' ds') (.own ds) l hj e1 hd rfl rfl (by rw [s1, w1, z]) eo
        exact ⟨vs', w1, w2, w3, by rw [rem_ne hn]; exact w4, w5⟩
      | dct ds' =>
        obtain ⟨l', vs', w1, w2, w3, w4, w5⟩ := q
        have hn : l' ≠ l := fun z => rs.ap j i (.dct ds') (.own ds) l hj e1 hd rfl rfl (by rw [s1, w1, z]) eo
        exact ⟨l', vs', w1, w2, w3, by rw [rem_ne hn]; exact w4, w5⟩
      | fdc kvs => exact q)
    ⟨l, vs', rfl, h1, q2, h2, r⟩ (fun _ j y a hj e1 m ea s1 => rs.ap j i y (.own ds) a hj e1 hd m rfl s1 (by rw [eo, ea]))
  rw [es] at r2
  exact r2
/-- x(y, e): x a draw, y a list of one's own -/
theorem md_draw {k i : Nat} {x y : Str} {py : Pos} {Dm : List PyData → Int → Prop} {Pt : List PyData → Int → List PyData → Int → Prop} {ds : List PyData} (D : DefM X.prog X.w X.K X.mg X.base k x Dm Pt) (hG : X.A.guards = some []) (hr : Room k X.A) (hd : δ[i]? = some (.own ds)) (he : MD X δ e Φ)
    (hΦ : ∀ δ' d, Φ δ' d → ∃ n ds1, d = .int n ∧ δ'[i]? = some (.own ds1) ∧ Dm ds1 n) (hN : X.N[i]? = some y := by rfl) (hv : Vis X.env.scope y := by first | exact Or.inl rfl | exact Or.inr (Or.inl rfl) | exact Or.inr (Or.inr rfl))
    (h1 : (y == ("__debug__" : Str)) = false := by decide) (h2 : (y == ("__classdict__" : Str)) = false := by decide) (hg : Gl X x := by rfl) (hdb : (x == ("__debug__" : Str)) = false := by decide)
    (hs : starEach [.Name y py, e] X.env = (false, eval (.Name y py) X.env) :: starEach [e] X.env := by rfl) (hs2 : starEach [e] X.env = (false, eval e X.env) :: starEach [] X.env := by rfl) (hpl : (backTo pos (starEach [e] X.env)).any (·.1) = false := by rfl) :
    MD X δ (.Call (.Name x p) [.Name y py, e] [] pos) (fun δ'' d => ∃ δ' n ds1 r ds2, Φ δ' (.int n) ∧ δ'[i]? = some (.own ds1) ∧ Pt ds1 n ds2 r ∧ δ'' = δ'.set i (.own ds2) ∧ d = .int r) := fun B σ G H Q rs kk pins s I => by
  obtain ⟨f, fd, ps, F, hm, hk, hb, hn⟩ := D.ex
  obtain ⟨o, eo, l, vs, rfl, q1, q2, q3, q4⟩ := rs.get hd
  refine wpAny_Call_Name_kw (ld_glob I hg hm ?_ hdb)
  refine PySem.W.callWith_K (h₀ := X.base) I.ok.mod.kin hk (thn ((pa_cons (pe_var hN hv h1 h2) (pa_cons pe_rd pa_nil hs2) hs).run pos pins s σ H (fun vs H1 => spDraw X.K X.mg X.base Dm Pt vs H1 Q E0) I ⟨.ref l, eo, he B σ G H _ rs fun δ' v d G1 H1 hΦ1 hx rs1 dv => ?_⟩) fun us s1 ⟨vs, H1, I1, r, q⟩ => ⟨I1.kIn, ?_⟩) hs hpl
  · obtain ⟨n, ds1, rfl, hd1, hDm⟩ := hΦ _ _ hΦ1
    obtain ⟨o, eo', l', vs1, e1, w1, w2, w3, w4⟩ := rs1.get hd1
    rw [eo] at eo'
    cases eo'
    cases e1
    cases dv
    refine ⟨rs1.tab.gr rs1.gr, G1, l, vs1, ds1, n, rfl, w3, w1, rs1.ex, w4, hDm, fun r ds2 vs2 G2 H2 hp g h1 h2 dd => ?_⟩
    exact kk _ _ (.int r) G2 H2 ⟨δ', n, ds1, r, ds2, hΦ1, hd1, hp, rfl, rfl⟩ (hx.trans g.gg) (rs1.swap hd1 eo g h1 h2 dd) (.int r)
  · have hl : us.length = ps.length := by
      rw [← r.length]
      exact F.len _ _ _ _ q
    have hb' := hb s1 us I1.kIn (by rw [List.append_nil]; exact hl)
    rw [List.append_nil] at hb'
    exact run_fnG (vs := vs) (ws := us) (kw := []) F hG hr hb' I1 r q
end
end C9
set_option Elab.async false
set_option linter.all false
set_option maxRecDepth 100000
namespace C9
open PySem PySem.Spec PyProof.Rows L2
/-! ### the text -/
def topS (i : Nat) : Stmt := PySem.Challenge.pw_caskyears_k89_whole_fewest_glasses.main.body.getD i (.Pass ⟨0, 0, 0, 0⟩)
abbrev s_is_integer : Stmt := topS 7
abbrev n_is_integer : List Str := ["value"]
theorem sc_is_integer : FnScope n_is_integer ["value"] (defScope s_is_integer) := ⟨rfl, rfl, rfl, by decide +kernel, rfl, by decide +kernel, by decide +kernel⟩
abbrev s_need_count : Stmt := topS 8
abbrev n_need_count : List Str := ["number", "low", "high"]
theorem sc_need_count : FnScope n_need_count ["number", "low", "high"] (defScope s_need_count) := ⟨rfl, rfl, rfl, by decide +kernel, rfl, by decide +kernel, by decide +kernel⟩
abbrev s_is_ascending : Stmt := topS 10
abbrev n_is_ascending : List Str := ["value", "number", "part", "one", "other"]
theorem sc_is_ascending : FnScope n_is_ascending ["value", "number"] (defScope s_is_ascending) := ⟨rfl, rfl, rfl, by decide +kernel, rfl, by decide +kernel, by decide +kernel⟩
abbrev s_need_glasses : Stmt := topS 11
abbrev n_need_glasses : List Str := ["glasses", "number", "glass"]
theorem sc_need_glasses : FnScope n_need_glasses ["glasses", "number"] (defScope s_need_glasses) := ⟨rfl, rfl, rfl, by decide +kernel, rfl, by decide +kernel, by decide +kernel⟩
abbrev s_need_faint : Stmt := topS 12
abbrev n_need_faint : List Str := ["faint"]
theorem sc_need_faint : FnScope n_need_faint ["faint"] (defScope s_need_faint) := ⟨rfl, rfl, rfl, by decide +kernel, rfl, by decide +kernel, by decide +kernel⟩
abbrev s_need_numbers : Stmt := topS 13
abbrev n_need_numbers : List Str := ["number", "most"]
theorem sc_need_numbers : FnScope n_need_numbers ["number", "most"] (defScope s_need_numbers) := ⟨rfl, rfl, rfl, by decide +kernel, rfl, by decide +kernel, by decide +kernel⟩
abbrev s_is_bad : Stmt := topS 14
abbrev n_is_bad : List Str := ["glass", "spoilt", "faint", "many", "cask"]
theorem sc_is_bad : FnScope n_is_bad ["glass", "spoilt", "faint"] (defScope s_is_bad) := ⟨rfl, rfl, rfl, by decide +kernel, rfl, by decide +kernel, by decide +kernel⟩
abbrev s_told_by : Stmt := topS 15
abbrev n_told_by : List Str := ["glasses", "spoilt", "faint", "glass"]
theorem sc_told_by : FnScope n_told_by ["glasses", "spoilt", "faint"] (defScope s_told_by) := ⟨rfl, rfl, rfl, by decide +kernel, rfl, by decide +kernel, by decide +kernel⟩
abbrev s_every_set : Stmt := topS 16
abbrev n_every_set : List Str := ["number", "most", "found", "last", "many", "one", "cask"]
theorem sc_every_set : FnScope n_every_set ["number", "most"] (defScope s_every_set) := ⟨rfl, rfl, rfl, by decide +kernel, rfl, by decide +kernel, by decide +kernel⟩
abbrev s_answers : Stmt := topS 17
abbrev n_answers : List Str := ["glasses", "spoilt", "faint"]
theorem sc_answers : FnScope n_answers ["glasses", "spoilt", "faint"] (defScope s_answers) := ⟨rfl, rfl, rfl, by decide +kernel, rfl, by decide +kernel, by decide +kernel⟩
abbrev s_alike_pair : Stmt := topS 18
abbrev n_alike_pair : List Str := ["number", "most", "glasses", "faint", "seen", "spoilt", "told"]
theorem sc_alike_pair : FnScope n_alike_pair ["number", "most", "glasses", "faint"] (defScope s_alike_pair) := ⟨rfl, rfl, rfl, by decide +kernel, rfl, by decide +kernel, by decide +kernel⟩
abbrev s_finds : Stmt := topS 19
abbrev n_finds : List Str := ["number", "most", "glasses", "faint"]
theorem sc_finds : FnScope n_finds ["number", "most", "glasses", "faint"] (defScope s_finds) := ⟨rfl, rfl, rfl, by decide +kernel, rfl, by decide +kernel, by decide +kernel⟩
abbrev s_fitting : Stmt := topS 20
abbrev n_fitting : List Str := ["number", "most", "glasses", "faint", "told", "bad", "spoilt"]
theorem sc_fitting : FnScope n_fitting ["number", "most", "glasses", "faint", "told"] (defScope s_fitting) := ⟨rfl, rfl, rfl, by decide +kernel, rfl, by decide +kernel, by decide +kernel⟩
abbrev s_unlike_glasses : Stmt := topS 21
abbrev n_unlike_glasses : List Str := ["number", "sets", "faint", "seen", "glass", "told", "spoilt"]
theorem sc_unlike_glasses : FnScope n_unlike_glasses ["number", "sets", "faint"] (defScope s_unlike_glasses) := ⟨rfl, rfl, rfl, by decide +kernel, rfl, by decide +kernel, by decide +kernel⟩
abbrev s_parted : Stmt := topS 22
abbrev n_parted : List Str := ["blocks", "told", "found", "block", "at"]
theorem sc_parted : FnScope n_parted ["blocks", "told"] (defScope s_parted) := ⟨rfl, rfl, rfl, by decide +kernel, rfl, by decide +kernel, by decide +kernel⟩
abbrev s_chosen : Stmt := topS 23
abbrev n_chosen : List Str := ["glasses", "start", "blocks", "left", "block", "at", "glass", "told", "finer", "further"]
theorem sc_chosen : FnScope n_chosen ["glasses", "start", "blocks", "left"] (defScope s_chosen) := ⟨rfl, rfl, rfl, by decide +kernel, rfl, by decide +kernel, by decide +kernel⟩
abbrev s_best_glasses : Stmt := topS 24
abbrev n_best_glasses : List Str := ["number", "most", "faint", "sets", "glasses", "blocks", "found", "many"]
theorem sc_best_glasses : FnScope n_best_glasses ["number", "most", "faint"] (defScope s_best_glasses) := ⟨rfl, rfl, rfl, by decide +kernel, rfl, by decide +kernel, by decide +kernel⟩
abbrev s_fewest_glasses : Stmt := topS 25
abbrev n_fewest_glasses : List Str := ["number", "most", "faint"]
theorem sc_fewest_glasses : FnScope n_fewest_glasses ["number", "most", "faint"] (defScope s_fewest_glasses) := ⟨rfl, rfl, rfl, by decide +kernel, rfl, by decide +kernel, by decide +kernel⟩
abbrev s_some_glasses : Stmt := topS 26
abbrev n_some_glasses : List Str := ["number", "most", "faint"]
theorem sc_some_glasses : FnScope n_some_glasses ["number", "most", "faint"] (defScope s_some_glasses) := ⟨rfl, rfl, rfl, by decide +kernel, rfl, by decide +kernel, by decide +kernel⟩
abbrev s_tree_within : Stmt := topS 27
abbrev n_tree_within : List Str := ["glasses", "block", "left", "glass", "told", "bad", "entry", "good", "first", "second"]
theorem sc_tree_within : FnScope n_tree_within ["glasses", "block", "left"] (defScope s_tree_within) := ⟨rfl, rfl, rfl, by decide +kernel, rfl, by decide +kernel, by decide +kernel⟩
abbrev s_least_tree : Stmt := topS 28
abbrev n_least_tree : List Str := ["number", "most", "faint", "sets", "glasses", "depth", "tree"]
theorem sc_least_tree : FnScope n_least_tree ["number", "most", "faint"] (defScope s_least_tree) := ⟨rfl, rfl, rfl, by decide +kernel, rfl, by decide +kernel, by decide +kernel⟩
abbrev s_fewest_in_turn : Stmt := topS 29
abbrev n_fewest_in_turn : List Str := ["number", "most", "faint"]
theorem sc_fewest_in_turn : FnScope n_fewest_in_turn ["number", "most", "faint"] (defScope s_fewest_in_turn) := ⟨rfl, rfl, rfl, by decide +kernel, rfl, by decide +kernel, by decide +kernel⟩
abbrev s_turn_tree : Stmt := topS 30
abbrev n_turn_tree : List Str := ["number", "most", "faint"]
theorem sc_turn_tree : FnScope n_turn_tree ["number", "most", "faint"] (defScope s_turn_tree) := ⟨rfl, rfl, rfl, by decide +kernel, rfl, by decide +kernel, by decide +kernel⟩
abbrev s__law_deck : Stmt := topS 32
abbrev n__law_deck : List Str := ["_law_script", "_law_mixed", "_law_cell"]
theorem sc__law_deck : FnScope n__law_deck ["_law_script"] (defScope s__law_deck) := ⟨rfl, rfl, rfl, by decide +kernel, rfl, by decide +kernel, by decide +kernel⟩
abbrev s__law_draw : Stmt := topS 33
abbrev n__law_draw : List Str := ["_law_deck_here", "_law_bound", "_law_cell", "_law_digit", "_law_stir"]
theorem sc__law_draw : FnScope n__law_draw ["_law_deck_here", "_law_bound"] (defScope s__law_draw) := ⟨rfl, rfl, rfl, by decide +kernel, rfl, by decide +kernel, by decide +kernel⟩
abbrev s__law_sets : Stmt := topS 34
abbrev n__law_sets : List Str := ["_law_number", "_law_most", "_law_found", "_law_bits", "_law_some", "_law_cask"]
theorem sc__law_sets : FnScope n__law_sets ["_law_number", "_law_most"] (defScope s__law_sets) := ⟨rfl, rfl, rfl, by decide +kernel, rfl, by decide +kernel, by decide +kernel⟩
abbrev s__law_bad : Stmt := topS 35
abbrev n__law_bad : List Str := ["_law_glass", "_law_spoilt", "_law_faint", "_law_many", "_law_cask"]
theorem sc__law_bad : FnScope n__law_bad ["_law_glass", "_law_spoilt", "_law_faint"] (defScope s__law_bad) := ⟨rfl, rfl, rfl, by decide +kernel, rfl, by decide +kernel, by decide +kernel⟩
abbrev s__law_answers : Stmt := topS 36
abbrev n__law_answers : List Str := ["_law_glasses", "_law_spoilt", "_law_faint", "_law_glass"]
theorem sc__law_answers : FnScope n__law_answers ["_law_glasses", "_law_spoilt", "_law_faint"] (defScope s__law_answers) := ⟨rfl, rfl, rfl, by decide +kernel, rfl, by decide +kernel, by decide +kernel⟩
abbrev s__law_integer : Stmt := topS 37
abbrev n__law_integer : List Str := ["_law_value"]
theorem sc__law_integer : FnScope n__law_integer ["_law_value"] (defScope s__law_integer) := ⟨rfl, rfl, rfl, by decide +kernel, rfl, by decide +kernel, by decide +kernel⟩
abbrev s__law_are_glasses : Stmt := topS 38
abbrev n__law_are_glasses : List Str := ["_law_value", "_law_number", "_law_known", "_law_some", "_law_glass"]
theorem sc__law_are_glasses : FnScope n__law_are_glasses ["_law_value", "_law_number"] (defScope s__law_are_glasses) := ⟨rfl, rfl, rfl, by decide +kernel, rfl, by decide +kernel, by decide +kernel⟩
abbrev s__law_columns : Stmt := topS 39
abbrev n__law_columns : List Str := ["_law_number", "_law_sets_here", "_law_faint", "_law_found", "_law_glass", "_law_row", "_law_some"]
theorem sc__law_columns : FnScope n__law_columns ["_law_number", "_law_sets_here", "_law_faint"] (defScope s__law_columns) := ⟨rfl, rfl, rfl, by decide +kernel, rfl, by decide +kernel, by decide +kernel⟩
abbrev s__law_part : Stmt := topS 40
abbrev n__law_part : List Str := ["_law_blocks", "_law_row", "_law_found", "_law_block", "_law_bad_here", "_law_part_here", "_law_at"]
theorem sc__law_part : FnScope n__law_part ["_law_blocks", "_law_row"] (defScope s__law_part) := ⟨rfl, rfl, rfl, by decide +kernel, rfl, by decide +kernel, by decide +kernel⟩
abbrev s__law_can : Stmt := topS 41
abbrev n__law_can : List Str := ["_law_blocks", "_law_columns_here", "_law_many", "_law_block", "_law_at"]
theorem sc__law_can : FnScope n__law_can ["_law_blocks", "_law_columns_here", "_law_many"] (defScope s__law_can) := ⟨rfl, rfl, rfl, by decide +kernel, rfl, by decide +kernel, by decide +kernel⟩
abbrev s__law_can_in_turn : Stmt := topS 42
abbrev n__law_can_in_turn : List Str := ["_law_block", "_law_columns_here", "_law_many", "_law_row", "_law_bad_here", "_law_at"]
theorem sc__law_can_in_turn : FnScope n__law_can_in_turn ["_law_block", "_law_columns_here", "_law_many"] (defScope s__law_can_in_turn) := ⟨rfl, rfl, rfl, by decide +kernel, rfl, by decide +kernel, by decide +kernel⟩
abbrev s__law_tree_right : Stmt := topS 43
abbrev n__law_tree_right : List Str := ["_law_tree", "_law_sets_here", "_law_number", "_law_faint", "_law_left", "_law_due", "_law_some", "_law_bad_here", "_law_good", "_law_told"]
theorem sc__law_tree_right : FnScope n__law_tree_right ["_law_tree", "_law_sets_here", "_law_number", "_law_faint", "_law_left"] (defScope s__law_tree_right) := ⟨rfl, rfl, rfl, by decide +kernel, rfl, by decide +kernel, by decide +kernel⟩
abbrev s__law_row_right : Stmt := topS 44
abbrev n__law_row_right : List Str := ["_law_number", "_law_most", "_law_faint", "_law_sets_here", "_law_columns_here", "_law_many", "_law_glasses", "_law_some", "_law_told", "_law_blocks"]
theorem sc__law_row_right : FnScope n__law_row_right ["_law_number", "_law_most", "_law_faint", "_law_sets_here", "_law_columns_here"] (defScope s__law_row_right) := ⟨rfl, rfl, rfl, by decide +kernel, rfl, by decide +kernel, by decide +kernel⟩
abbrev s_law : Stmt := topS 45
abbrev n_law : List Str := ["_law_script", "_law_deck_here", "_law_number", "_law_most", "_law_faint", "_law_sets_here", "_law_columns_here", "_law_depth", "_law_tree", "_law_again", "_law_some"]
theorem sc_law : FnScope n_law ["_law_script"] (defScope s_law) := ⟨rfl, rfl, rfl, by decide +kernel, rfl, by decide +kernel, by decide +kernel⟩
end C9
set_option Elab.async false
set_option linter.all false
set_option maxRecDepth 100000
set_option maxHeartbeats 1000000
namespace C9
/-! ### the mirror: what the defs compute, in plain Lean -/
/-- c: the faint glass's share, at most 5 -/
def isBad (g s : List Nat) (c : Option Nat) : Bool :=
  match c with
  | none => decide (0 < (g.filter fun x => s.contains x).length)
  | some f => decide (g.length ≤ (g.filter fun x => s.contains x).length * f)
def toldBy (gs : List (List Nat)) (s : List Nat) (c : Option Nat) : List Bool := gs.map fun g => isBad g s c
def okNext (one : List Nat) (cask : Nat) : Bool := match one.getLast? with
  | none => true
  | some l => decide (l < cask)
def nextSets (n : Nat) (last : List (List Nat)) : List (List Nat) := last.flatMap fun one => ((List.range n).filter (okNext one)).map fun c => one ++ [c]
def lastSets (n : Nat) : Nat → List (List Nat)
  | 0 => [[]]
  | k + 1 => nextSets n (lastSets n k)
def everySet (n : Nat) : Nat → List (List Nat)
  | 0 => [[]]
  | k + 1 => everySet n k ++ lastSets n (k + 1)
/-- (told, glass) pairs of unlike_glasses' dict -/
def unlikeStep (sets : List (List Nat)) (c : Option Nat) (acc : List (List Bool × List Nat)) (g : List Nat) : List (List Bool × List Nat) :=
  let t := sets.map fun s => isBad g s c
  if acc.any fun kv => decide (kv.1 = t) then acc else acc ++ [(t, g)]
def unlike (n : Nat) (sets : List (List Nat)) (c : Option Nat) : List (List Bool × List Nat) := ((everySet n n).drop 1).foldl (unlikeStep sets c) []
def glassesOf (n : Nat) (sets : List (List Nat)) (c : Option Nat) : List (List Nat × List Bool) := (unlike n sets c).map fun kv => (kv.2, kv.1)
def at2 (t : List Bool) (i : Nat) : Bool := t.getD i false
def halves (t : List Bool) (b : List Nat) : List (List Nat) := [b.filter (at2 t), b.filter fun i => !at2 t i]
def parted (bs : List (List Nat)) (t : List Bool) : List (List Nat) := (bs.flatMap (halves t)).filter fun b => decide (1 < b.length)
def tooBig (bs : List (List Nat)) (left : Nat) : Bool := bs.any fun b => decide (2 ^ left < b.length)
def search (f : List (List Nat × List Bool) → List (List Nat) → Option (List (List Nat))) (bs : List (List Nat)) : List (List Nat × List Bool) → Option (List (List Nat))
  | [] => none
  | (g, t) :: rest =>
    let finer := parted bs t
    if finer = bs then search f bs rest
    else match f rest finer with
      | some x => some (g :: x)
      | none => search f bs rest
def chosen : Nat → List (List Nat × List Bool) → List (List Nat) → Option (List (List Nat))
  | left, gs, bs => if bs = [] then some [] else if tooBig bs left then none else match left with
    | 0 => none
    | k + 1 => search (chosen k) bs gs
def blocks0 (L : Nat) : List (List Nat) := if 1 < L then [List.range L] else []
def findUp {α : Type} (f : Nat → Option α) : Nat → Nat → Option (Nat × α)
  | 0, _ => none
  | k + 1, i => match f i with
    | some x => some (i, x)
    | none => findUp f k (i + 1)
def best (n m : Nat) (c : Option Nat) : Option (Nat × List (List Nat)) :=
  let sets := everySet n m
  findUp (fun many => chosen many (glassesOf n sets c) (blocks0 sets.length)) 6 0
inductive Tree where
  | are (s : List Nat)
  | node (g : List Nat) (a b : Tree)
def searchT (f : List (Nat × List Nat) → Option Tree) (block : List (Nat × List Nat)) : List (List Nat × List Bool) → Option Tree
  | [] => none
  | (g, t) :: rest =>
    let bad := block.filter fun e => at2 t e.1
    let good := block.filter fun e => !at2 t e.1
    if bad = [] ∨ good = [] then searchT f block rest
    else match f bad with
      | none => searchT f block rest
      | some x => match f good with
        | none => searchT f block rest
        | some y => some (.node g x y)
def within (gs : List (List Nat × List Bool)) : Nat → List (Nat × List Nat) → Option Tree
  | left, block => if block.length = 1 then some (.are (block.headD (0, [])).2) else if 2 ^ left < block.length then none else match left with
    | 0 => none
    | k + 1 => searchT (within gs k) block gs
def enum (sets : List (List Nat)) : List (Nat × List Nat) := (List.range sets.length).zip sets
def leastTree (n m : Nat) (c : Option Nat) : Option (Nat × Tree) :=
  let sets := everySet n m
  findUp (fun d => within (glassesOf n sets c) d (enum sets)) 6 0
/-! the law's own -/
def lawBad (g s : List Nat) (c : Option Nat) : Bool :=
  let many := (g.filter fun x => s.contains x).length
  decide (0 < many) && match c with
    | none => true
    | some f => decide (g.length ≤ many * f)
def columns (n : Nat) (sets : List (List Nat)) (c : Option Nat) : List (List Bool) :=
  ((everySet n n).drop 1).foldl (fun acc g => let r := sets.map fun s => lawBad g s c; if acc.any fun x => decide (x = r) then acc else acc ++ [r]) []
def lawPart (bs : List (List Nat)) (r : List Bool) : List (List Nat) := bs.flatMap fun b => (halves r b).filter fun b => decide (1 < b.length)
def canIn (f : List (List Bool) → List (List Nat) → Bool) (bs : List (List Nat)) : List (List Bool) → Bool
  | [] => false
  | r :: rest => f rest (lawPart bs r) || canIn f bs rest
def lawCan : Nat → List (List Bool) → List (List Nat) → Bool
  | many, cols, bs => if bs = [] then true else if tooBig bs many then false else match many with
    | 0 => false
    | k + 1 => canIn (lawCan k) bs cols
def turnIn (f : List Nat → Bool) (block : List Nat) : List (List Bool) → Bool
  | [] => false
  | r :: rest =>
    let bad := block.filter (at2 r)
    if bad ≠ [] ∧ bad.length < block.length ∧ f bad = true ∧ f (block.filter fun i => !at2 r i) = true then true else turnIn f block rest
def canInTurn (cols : List (List Bool)) : Nat → List Nat → Bool
  | many, block => if block.length < 2 then true else if 2 ^ many < block.length then false else match many with
    | 0 => false
    | k + 1 => turnIn (canInTurn cols k) block cols
/-- the tree is right: number n, share c -/
def treeRight (n : Nat) (c : Option Nat) : Tree → List (List Nat) → Nat → Bool
  | .are s, sets, _ => decide (sets.length < 2) && (if sets = [] then everySet n n else sets).contains s
  | .node _ _ _, _, 0 => false
  | .node g a b, sets, left + 1 => ((everySet n n).drop 1).contains g && sets.all (fun s => isBad g s c == lawBad g s c) &&
      treeRight n c a (sets.filter fun s => isBad g s c) left && treeRight n c b (sets.filter fun s => !isBad g s c) left
def noDups : List (List Bool) → Bool
  | [] => true
  | x :: xs => !xs.contains x && noDups xs
def fine (n m : Nat) (c : Option Nat) : Bool :=
  let sets := everySet n m
  let cols := columns n sets c
  match best n m c, leastTree n m c with
  | some (many, gs), some (d, t) =>
    decide (gs.length = many) && decide (many ≤ n) && gs.all (fun g => ((everySet n n).drop 1).contains g) && noDups (sets.map fun s => toldBy gs s c) &&
    sets.all (fun s => decide (toldBy gs s c = gs.map fun g => lawBad g s c) && decide ((sets.filter fun s' => decide (toldBy gs s' c = toldBy gs s c)) = [s])) &&
    (many == 0 || !lawCan (many - 1) cols (blocks0 sets.length)) &&
    (c.isSome || decide (2 ≤ m) || (decide (n * m < 2 ^ many) && (many == 0 || decide (2 ^ (many - 1) ≤ n)))) &&
    decide (d ≤ many) && (d == 0 || !canInTurn cols (d - 1) (List.range sets.length)) && treeRight n c t sets d
  | _, _ => false
def cases : List (Nat × Nat × Option Nat) := (List.range 5).flatMap fun n => (List.range (n + 2)).flatMap fun m => [(n + 1, m, none), (n + 1, m, some 1), (n + 1, m, some 2), (n + 1, m, some 3), (n + 1, m, some 4), (n + 1, m, some 5)]
theorem fine_all : (cases.all fun x => fine x.1 x.2.1 x.2.2) = true := by decide +kernel
end C9
set_option Elab.async false
set_option linter.all false
set_option maxRecDepth 100000
set_option maxHeartbeats 1000000
namespace C9
open PySem PySem.Spec PyProof.Rows L2
/-! ### what the module leaves to the built-ins -/
structure Txt (mg : Str → Option Value) : Prop where
  len : mg "len" = none
  tuple : mg "tuple" = none
  int : mg "int" = none
  bool : mg "bool" = none
  str : mg "str" = none
  isinstance : mg "isinstance" = none
  all : mg "all" = none
  zip : mg "zip" = none
  range : mg "range" = none
  max : mg "max" = none
  list : mg "list" = none
  enumerate : mg "enumerate" = none
  repr : mg "repr" = none
  sorted : mg "sorted" = none
  abs : mg "abs" = none
/-! ### data -/
def natD (n : Nat) : PyData := .int (n : Int)
def intsT (l : List Nat) : PyData := .tuple (l.map natD)
def intsL (l : List Nat) : PyData := .list (l.map natD)
def setsL (l : List (List Nat)) : PyData := .list (l.map intsT)
def glassesT (l : List (List Nat)) : PyData := .tuple (l.map intsT)
def blocksL (l : List (List Nat)) : PyData := .list (l.map intsL)
def boolsT (l : List Bool) : PyData := .tuple (l.map PyData.bool)
def boolsL (l : List Bool) : PyData := .list (l.map PyData.bool)
/-- a faint glass's share, and what counts of it -/
inductive FD : PyData → Option Nat → Prop
  | non : FD .none none
  | int {f : Nat} : 1 ≤ f → f ≤ 10 ^ 20 → FD (natD f) (some (min f 5))
theorem flat_nat (l : List Nat) : (l.map natD).all isFlat = true := by
  rw [List.all_eq_true]
  intro d hd
  obtain ⟨n, _, rfl⟩ := List.mem_map.mp hd
  rfl
theorem inV_nat (n : Nat) : ∀ l : List Nat, inV (flat (natD n)) ((l.map natD).map flat) = l.contains n
  | [] => rfl
  | m :: l => by
    have ih := inV_nat n l
    unfold inV at ih ⊢
    rw [List.map_cons, List.map_cons, List.any_cons, ih, List.contains_cons]
    congr 1
    show eqV (V.int (m : Int)) (V.int (n : Int)) = (n == m)
    show ((m : Int) == (n : Int)) = (n == m)
    by_cases h : n = m
    · subst h; rw [beq_self_eq_true, beq_self_eq_true]
    · have h1 : ¬ (m : Int) = (n : Int) := by omega
      rw [beq_eq_false_iff_ne.mpr h1, beq_eq_false_iff_ne.mpr h]
theorem cap_le {a m f : Nat} (h : 1 ≤ f) (ha : a ≤ 5) : (a ≤ m * f) ↔ (a ≤ m * min f 5) := by
  rcases Nat.eq_zero_or_pos m with z | z
  · subst z; simp
  · have h1 : 1 * f ≤ m * f := Nat.mul_le_mul_right f z
    have h2 : 1 * min f 5 ≤ m * min f 5 := Nat.mul_le_mul_right _ z
    rcases Nat.le_total f 5 with q | q
    · rw [Nat.min_eq_left q]
    · rw [Nat.min_eq_right q] at h2 ⊢
      omega
/-- a def of the module -/
structure Fn (K : PySem.W.Frag) (mg : Str → Option Value) (x : Str) (st : Stmt) (ps : List Str) : Prop where
  ex : ∃ (f : Addr) (fd : FuncData), Fun K x x st f fd ∧ mg x = some (.ref f) ∧ Binds K fd ps [] ∧ KwB x fd ps
theorem def_fn {P : Program} {w : World} {K : PySem.W.Frag} {mg : Str → Option Value} {base : Heap} {x : Str} {st : Stmt} {N ps : List Str} {R : List PyData → PyData → Prop} (k : Nat) (M : Fn K mg x st ps) (S : FnScope N ps (defScope st)) (len : ∀ ds d, R ds d → ds.length = ps.length)
    (body : ∀ (f : Addr) (cdv : Value) (A : Around) (outer : List Env) (s : Shared) (H : Hp) (E : XK) (ds : List PyData) (d : PyData), R ds d → ((cxOf CX0 P w K mg base N x (defScope st) f cdv A outer s H E).nox).A.guards = some [] → Room k ((cxOf CX0 P w K mg base N x (defScope st) f cdv A outer s H E).nox).A → N.Nodup →
      SD ((cxOf CX0 P w K mg base N x (defScope st) f cdv A outer s H E).nox) (ds.map Sl.val ++ List.replicate (N.length - ds.length) Sl.no) (defBody st) { nx := fun _ => d = .none, rt := fun _ d' => d' = d }) :
    Def P w K mg base (k + 1) x ps.length R := by
  obtain ⟨f, fd, F, hm, hb, hkw⟩ := M.ex
  refine def_of F S hm hb hkw len ?_
  rintro X cdv A outer s H E rfl hG hr ds d h
  exact body f cdv A outer s H E ds d h hG hr S.nd
/-- a call of a def that has room enough -/
theorem ed_fn {X : Cx} {δ : List Sl} {e : Expr} {es : List Expr} {pos p : Pos} {j n : Nat} {x : Str} {R : List PyData → PyData → Prop} {ds : List PyData} {d : PyData} (k : Nat) (D : Def X.prog X.w X.K X.mg X.base j x n R) (hr : Room k X.A) (hG : X.A.guards = some []) (ha : AD X δ (e :: es) ds) (hR : R ds d) (hjk : j ≤ k := by decide) (hg : Gl X x := by rfl)
    (hdb : (x == ("__debug__" : Str)) = false := by decide) (he : starEach (e :: es) X.env = (false, eval e X.env) :: starEach es X.env := by rfl) (hpl : (backTo pos (starEach es X.env)).any (·.1) = false := by rfl) :
    ED X δ (.Call (.Name x p) (e :: es) [] pos) d := ed_call D hG (hr.mono hjk) ha hR hg hdb he hpl
theorem td_fn {X : Cx} {δ : List Sl} {e : Expr} {es : List Expr} {pos p : Pos} {j n : Nat} {x : Str} {R : List PyData → PyData → Prop} {ds : List PyData} {b : Bool} (k : Nat) (D : Def X.prog X.w X.K X.mg X.base j x n R) (hr : Room k X.A) (hG : X.A.guards = some []) (ha : AD X δ (e :: es) ds) (hR : R ds (.bool b)) (hjk : j ≤ k := by decide) (hg : Gl X x := by rfl)
    (hdb : (x == ("__debug__" : Str)) = false := by decide) (he : starEach (e :: es) X.env = (false, eval e X.env) :: starEach es X.env := by rfl) (hpl : (backTo pos (starEach es X.env)).any (·.1) = false := by rfl) :
    TD X δ (.Call (.Name x p) (e :: es) [] pos) b := td_v (ed_fn k D hr hG ha hR hjk hg hdb he hpl)
/-- an expression for its own sake -/
theorem sd_expr {X : Cx} {δ : List Sl} {e : Expr} {rest : List Stmt} {E : En} {pos : Pos} {d : PyData} (he : ED X δ e d) (k : SD X δ rest E) (hs : swapsWith e none pos.line X.env = pure false := by rfl) : SD X δ (.Expr e pos :: rest) E :=
  sd_cons (ps_expr pe_rd hs) fun B σ G H D rs f => he B σ G H _ rs fun v G1 H1 g1 d1 => k B σ G1 H1 D (rs.grow g1) f
section
variable {P : Program} {w : World} {K : PySem.W.Frag} {mg : Str → Option Value} {base : Heap}
def R_is_integer (ds : List PyData) (d : PyData) : Prop := ∃ i : Int, ds = [.int i] ∧ d = .bool true
theorem w_is_integer (T : Txt mg) (M : Fn K mg "is_integer" s_is_integer ["value"]) : Def P w K mg base 1 "is_integer" 1 R_is_integer := by
  refine def_fn 0 M sc_is_integer (fun ds d ⟨_, e, _⟩ => by rw [e]; rfl) ?_
  rintro f cdv A outer s H E _ _ ⟨i, rfl, rfl⟩ hG hr nd
  show SD _ [.val (.int i)] _ _
  exact sd_ret (ed_and2 (ed_isi (ev 0) rfl rfl T.isinstance T.int) fun _ => ed_not (ed_isi (ev 0) rfl rfl T.isinstance T.bool)) rfl
theorem w__law_integer (T : Txt mg) (M : Fn K mg "_law_integer" s__law_integer ["_law_value"]) : Def P w K mg base 1 "_law_integer" 1 R_is_integer := by
  refine def_fn 0 M sc__law_integer (fun ds d ⟨_, e, _⟩ => by rw [e]; rfl) ?_
  rintro f cdv A outer s H E _ _ ⟨i, rfl, rfl⟩ hG hr nd
  show SD _ [.val (.int i)] _ _
  exact sd_ret (ed_and2 (ed_isi (ev 0) rfl rfl T.isinstance T.int) fun _ => ed_not (ed_isi (ev 0) rfl rfl T.isinstance T.bool)) rfl
/-- lo <= number <= hi -/
theorem ed_le2 {X : Cx} {δ : List Sl} {a b c : Expr} {pos : Pos} {i j k : Int} (ha : ED X δ a (.int i)) (hb : ED X δ b (.int j)) (hc : ED X δ c (.int k)) (hm : lastMarks [.LtE, .LtE] [b, c] = false := by with_unfolding_all rfl) :
    ED X δ (.Compare a [.LtE, .LtE] [b, c] pos) (.bool (decide (i ≤ j) && decide (j ≤ k))) :=
  ed_chain op_le op_le ha hb hc (fun G H v u Q _ d1 d2 q => by cases d1; cases d2; exact ⟨i, j, rfl, rfl, q⟩) (fun _ G H v u Q _ d1 d2 q => by cases d1; cases d2; exact ⟨j, k, rfl, rfl, q⟩) hm
theorem td_le2 {X : Cx} {δ : List Sl} {a b c : Expr} {pos : Pos} {i j k : Int} (ha : ED X δ a (.int i)) (hb : ED X δ b (.int j)) (hc : ED X δ c (.int k)) (hm : lastMarks [.LtE, .LtE] [b, c] = false := by with_unfolding_all rfl) :
    TD X δ (.Compare a [.LtE, .LtE] [b, c] pos) (decide (i ≤ j) && decide (j ≤ k)) :=
  TD.of (pt_chain op_le op_le pe_rd pe_rd pe_rd hm) fun B σ G H Q rs kk => ha B σ G H _ rs fun v G1 H1 g1 d1 => hb B σ G1 H1 _ (rs.grow g1) fun u G2 H2 g2 d2 => by
    cases d1; cases d2
    refine ⟨i, j, rfl, rfl, _, rfl, ?_⟩
    by_cases h : i ≤ j
    · rw [if_pos (decide_eq_true h)]
      refine hc B σ G2 H2 _ (rs.grow (g1.trans g2)) fun t G3 H3 g3 d3 => ?_
      cases d3
      refine ⟨j, k, rfl, rfl, _, rfl, ?_⟩
      rw [decide_eq_true h] at kk
      exact kk G3 H3 ((g1.trans g2).trans g3)
    · rw [if_neg (by rw [decide_eq_false h]; decide)]
      refine ⟨_, rfl, ?_⟩
      rw [decide_eq_false h] at kk
      exact kk G2 H2 (g1.trans g2)
def R_need_count (ds : List PyData) (d : PyData) : Prop := ∃ a lo hi : Int, lo ≤ a ∧ a ≤ hi ∧ ds = [.int a, .int lo, .int hi] ∧ d = .none
theorem w_need_count (T : Txt mg) (M : Fn K mg "need_count" s_need_count ["number", "low", "high"]) (D1 : Def P w K mg base 1 "is_integer" 1 R_is_integer) : Def P w K mg base 2 "need_count" 3 R_need_count := by
  refine def_fn 1 M sc_need_count (fun ds d ⟨_, _, _, _, _, e, _⟩ => by rw [e]; rfl) ?_
  rintro f cdv A outer s H E _ _ ⟨a, lo, hi, h1, h2, rfl, rfl⟩ hG hr nd
  show SD _ [.val (.int a), .val (.int lo), .val (.int hi)] _ _
  refine sd_skip (td_or2 (td_not (td_fn 1 D1 hr hG (ad_cons (ev 0) ad_nil) ⟨a, rfl, rfl⟩)) fun _ => td_not (td_le2 (ev 1) (ev 0) (ev 2))) (sd_nil rfl) ?_
  rw [decide_eq_true h1, decide_eq_true h2]; rfl
def R_need_faint (ds : List PyData) (d : PyData) : Prop := ∃ x c, FD x c ∧ ds = [x] ∧ d = .none
theorem w_need_faint (T : Txt mg) (M : Fn K mg "need_faint" s_need_faint ["faint"]) (D1 : Def P w K mg base 1 "is_integer" 1 R_is_integer) : Def P w K mg base 2 "need_faint" 1 R_need_faint := by
  refine def_fn 1 M sc_need_faint (fun ds d ⟨_, _, _, e, _⟩ => by rw [e]; rfl) ?_
  rintro f cdv A outer s H E _ _ ⟨x, c, hx, rfl, rfl⟩ hG hr nd
  show SD _ [.val x] _ _
  cases hx with
  | non => exact sd_skip (td_and2 (q := false) (CD.td (cd_notN (ev 0))) fun z => by cases z) (sd_nil rfl)
  | @int f h1 h2 =>
    refine sd_skip (td_and2 (CD.td (cd_notN (ev 0))) fun _ => td_or2 (td_not (td_fn 1 D1 hr hG (ad_cons (ev 0) ad_nil) ⟨f, rfl, rfl⟩)) fun _ => CD.td (cd_lt (ev 0) ed_int)) (sd_nil rfl) ?_
    rw [decide_eq_false (by omega)]; rfl
def R_need_numbers (ds : List PyData) (d : PyData) : Prop := ∃ n m : Nat, 1 ≤ n ∧ n ≤ 5 ∧ m ≤ n ∧ ds = [natD n, natD m] ∧ d = .none
theorem w_need_numbers (T : Txt mg) (M : Fn K mg "need_numbers" s_need_numbers ["number", "most"]) (D1 : Def P w K mg base 2 "need_count" 3 R_need_count) : Def P w K mg base 3 "need_numbers" 2 R_need_numbers := by
  refine def_fn 2 M sc_need_numbers (fun ds d ⟨_, _, _, _, _, e, _⟩ => by rw [e]; rfl) ?_
  rintro f cdv A outer s H E _ _ ⟨n, m, h1, h2, h3, rfl, rfl⟩ hG hr nd
  show SD _ [.val (natD n), .val (natD m)] _ _
  refine sd_expr (ed_fn 2 D1 hr hG (ad_cons (ev 0) (ad_cons ed_int (ad_cons ed_int ad_nil))) ⟨n, 1, 8, by omega, by omega, rfl, rfl⟩) ?_
  refine sd_expr (ed_fn 2 D1 hr hG (ad_cons (ev 1) (ad_cons ed_int (ad_cons (ev 0) ad_nil))) ⟨m, 0, n, by omega, by omega, rfl, rfl⟩) ?_
  exact sd_nil rfl
def R_is_bad (ds : List PyData) (d : PyData) : Prop := ∃ g s x c, g.length ≤ 5 ∧ FD x c ∧ ds = [intsT g, intsT s, x] ∧ d = .bool (isBad g s c)
theorem w_is_bad (T : Txt mg) (M : Fn K mg "is_bad" s_is_bad ["glass", "spoilt", "faint"]) : Def P w K mg base 1 "is_bad" 3 R_is_bad := by
  refine def_fn 0 M sc_is_bad (fun ds d ⟨_, _, _, _, _, _, e, _⟩ => by rw [e]; rfl) ?_
  rintro f cdv A outer s H E _ _ ⟨g, sp, x, c, hz, hx, rfl, rfl⟩ hG hr nd
  show SD _ [.val (intsT g), .val (intsT sp), .val x, .no, .no] _ _
  refine sd_set (i := 3) (d := natD (g.filter fun c => sp.contains c).length) ?_ ?_
  · refine ED.to (ed_len (.inl rfl) (LD.ed (ld_lcF 4 n_is_bad (defScope s_is_bad) [("cask", 4)] g natD (fun c => sp.contains c) natD (id_tup (ev 0)) (by omega) (fun a ha s H C cl fp => ?_) (fun a ha hp s H C cl fp => ev 4))) T.len) ?_
    · exact CD.td (CD.to (cd_in (ds := sp.map natD) (.inr rfl) rfl (flat_nat _) rfl (ev 4) (ev 1)) (by rw [inV_nat]))
    · unfold natD
      rw [List.length_map]
  · show SD _ [.val (intsT g), .val (intsT sp), .val x, .val (natD (g.filter fun c => sp.contains c).length), .no] _ _
    cases hx with
    | non =>
      refine sd_yes (CD.td (cd_isN (ev 2))) (sd_ret (CD.ed (cd_gt (ev 3) ed_int)) ?_)
      show PyData.bool _ = PyData.bool _
      congr 1
      simp [isBad]
    | @int f h1 h2 =>
      refine sd_skip (CD.td (cd_isN (ev 2))) (sd_ret (CD.ed (cd_ge (ed_mul ?_ (ev 3) (ev 2)) (ed_len (.inr rfl) (ev 0) T.len))) ?_)
      · have := List.length_filter_le (fun c => sp.contains c) g
        exact .inl ⟨by omega, by omega⟩
      · show PyData.bool _ = PyData.bool _
        congr 1
        simp only [isBad, List.length_map, decide_eq_decide]
        rw [← cap_le h1 hz]
        omega
end
end C9
set_option Elab.async false
set_option linter.all false
set_option maxRecDepth 100000
set_option maxHeartbeats 1000000
namespace C9
open PySem PySem.Spec PyProof.Rows L2
/-! ### equality of data -/
structure Ec {α : Type} [DecidableEq α] (k : Nat) (f : α → PyData) : Prop where
  eq : ∀ x y, PyData.eqv (f x) (f y) = decide (x = y)
  lay : ∀ x, (f x).canLay0 = true
  dep : ∀ x, (f x).depth ≤ k
theorem Ec.shaped {α : Type} [DecidableEq α] {k : Nat} {f : α → PyData} (h : Ec k f) (hk : k ≤ 64) (x : α) : SeqAt.shaped (f x) = true := by
  show ((f x).canLay0 && decide ((f x).depth ≤ 64)) = true
  rw [h.lay x, decide_eq_true (Nat.le_trans (h.dep x) hk)]; rfl
theorem ec_nat : Ec 0 natD := ⟨fun x y => by
    show ((x : Int) == (y : Int)) = decide (x = y)
    by_cases h : x = y
    · subst h; rw [beq_self_eq_true, decide_eq_true rfl]
    · have h1 : ¬ (x : Int) = (y : Int) := by omega
      rw [beq_eq_false_iff_ne.mpr h1, decide_eq_false h], fun _ => rfl, fun _ => Nat.le_refl 0⟩
theorem ec_bool : Ec 0 PyData.bool := ⟨fun x y => by cases x <;> cases y <;> rfl, fun _ => rfl, fun _ => Nat.le_refl 0⟩
theorem ec_all {α : Type} [DecidableEq α] {k : Nat} {f : α → PyData} (h : Ec k f) : ∀ l m : List α, PyData.eqvAll (l.map f) (m.map f) = decide (l = m)
  | [], [] => rfl
  | [], _ :: _ => rfl
  | _ :: _, [] => rfl
  | x :: l, y :: m => by
    show (PyData.eqv (f x) (f y) && PyData.eqvAll (l.map f) (m.map f)) = _
    rw [h.eq, ec_all h l m]
    by_cases h1 : x = y
    · by_cases h2 : l = m
      · simp [h1, h2]
      · simp [h1, h2]
    · simp [h1]
theorem ec_lay {α : Type} [DecidableEq α] {k : Nat} {f : α → PyData} (h : Ec k f) : ∀ l : List α, PyData.canLayAll0 (l.map f) = true
  | [] => rfl
  | x :: l => by
    show ((f x).canLay0 && PyData.canLayAll0 (l.map f)) = true
    rw [h.lay, ec_lay h l]; rfl
theorem ec_dep {α : Type} [DecidableEq α] {k : Nat} {f : α → PyData} (h : Ec k f) : ∀ l : List α, PyData.depthAll (l.map f) ≤ k
  | [] => Nat.zero_le _
  | x :: l => Nat.max_le.mpr ⟨h.dep x, ec_dep h l⟩
theorem ec_list {α : Type} [DecidableEq α] {k : Nat} {f : α → PyData} (h : Ec k f) : Ec (k + 1) (fun l : List α => .list (l.map f)) :=
  ⟨ec_all h, ec_lay h, fun l => Nat.succ_le_succ (ec_dep h l)⟩
theorem ec_tup {α : Type} [DecidableEq α] {k : Nat} {f : α → PyData} (h : Ec k f) : Ec (k + 1) (fun l : List α => .tuple (l.map f)) :=
  ⟨ec_all h, ec_lay h, fun l => Nat.succ_le_succ (ec_dep h l)⟩
theorem ec_intsT : Ec 1 intsT := ec_tup ec_nat
theorem ec_intsL : Ec 1 intsL := ec_list ec_nat
theorem ec_blocksL : Ec 2 blocksL := ec_list ec_intsL
theorem ec_boolsT : Ec 1 boolsT := ec_tup ec_bool
theorem ec_boolsL : Ec 1 boolsL := ec_list ec_bool
theorem ec_setsL : Ec 2 setsL := ec_list ec_intsT
theorem un64 {k : Nat} {A : Around} (hr : Room k A) : A.units + 64 < cLine := by have := hr.un; omega
theorem cd_eqE {X : Cx} {δ : List Sl} {a b : Expr} {α : Type} [DecidableEq α] {k j : Nat} {f : α → PyData} {x y : α} (hr : Room j X.A) (h : Ec k f) (ha : ED X δ a (f x)) (hb : ED X δ b (f y)) (hk : k ≤ 64 := by decide) : CD X δ .Eq a b (.bool (decide (x = y))) :=
  (cd_eqD (un64 hr) (h.shaped hk x) (h.shaped hk y) ha hb).to (by rw [h.eq])
theorem cd_neE {X : Cx} {δ : List Sl} {a b : Expr} {α : Type} [DecidableEq α] {k j : Nat} {f : α → PyData} {x y : α} (hr : Room j X.A) (h : Ec k f) (ha : ED X δ a (f x)) (hb : ED X δ b (f y)) (hk : k ≤ 64 := by decide) : CD X δ .NotEq a b (.bool (!decide (x = y))) :=
  (cd_neD (un64 hr) (h.shaped hk x) (h.shaped hk y) ha hb).to (by rw [h.eq])
theorem ID.to {X : Cx} {δ : List Sl} {tg it : Expr} {ds es : List PyData} (h : ID X δ tg it ds) (e : ds = es) : ID X δ tg it es := by rw [← e]; exact h
theorem ed_neg {X : Cx} {δ : List Sl} {a : Expr} {pos : Pos} {i : Int} (ha : ED X δ a (.int i)) : ED X δ (.UnaryOp .USub a pos) (.int (-i)) :=
  ED.of (pe_un un_neg pe_rd) fun B σ G H Q rs k => ha B σ G H _ rs fun v G1 H1 g1 d1 => by
    cases d1
    exact ⟨i, rfl, k _ G1 H1 g1 (.int _)⟩
section
variable {P : Program} {w : World} {K : PySem.W.Frag} {mg : Str → Option Value} {base : Heap}
def R_told_by (ds : List PyData) (d : PyData) : Prop := ∃ gs s x c, gs.length ≤ 1000 ∧ (∀ g ∈ gs, g.length ≤ 5) ∧ FD x c ∧ ds = [glassesT gs, intsT s, x] ∧ d = boolsT (toldBy gs s c)
theorem w_told_by (T : Txt mg) (M : Fn K mg "told_by" s_told_by ["glasses", "spoilt", "faint"]) (D1 : Def P w K mg base 1 "is_bad" 3 R_is_bad) : Def P w K mg base 2 "told_by" 3 R_told_by := by
  refine def_fn 1 M sc_told_by (fun ds d ⟨_, _, _, _, _, _, _, e, _⟩ => by rw [e]; rfl) ?_
  rintro f cdv A outer s H E _ _ ⟨gs, sp, x, c, hz, hl, hx, rfl, rfl⟩ hG hr nd
  show SD _ [.val (glassesT gs), .val (intsT sp), .val x, .no] _ _
  refine sd_ret (ED.to (ed_tuple (LD.ed (ld_lc 3 n_told_by (defScope s_told_by) [("glass", 3)] gs intsT (fun g => .bool (isBad g sp c)) (id_tup (ev 0)) (by omega) (fun g hg s H C cl fp => ?_))) T.tuple) ?_) rfl
  · exact ed_fn 1 D1 hr hG (ad_cons (ev 3) (ad_cons (ev 1) (ad_cons (ev 2) ad_nil))) ⟨g, sp, x, c, hl g hg, hx, rfl, rfl⟩
  · unfold boolsT toldBy
    rw [List.map_map]; rfl
def R__law_bad (ds : List PyData) (d : PyData) : Prop := ∃ g s x c, g.length ≤ 5 ∧ FD x c ∧ ds = [intsT g, intsT s, x] ∧ d = .bool (lawBad g s c)
theorem w__law_bad (T : Txt mg) (M : Fn K mg "_law_bad" s__law_bad ["_law_glass", "_law_spoilt", "_law_faint"]) : Def P w K mg base 1 "_law_bad" 3 R__law_bad := by
  refine def_fn 0 M sc__law_bad (fun ds d ⟨_, _, _, _, _, _, e, _⟩ => by rw [e]; rfl) ?_
  rintro f cdv A outer s H E _ _ ⟨g, sp, x, c, hz, hx, rfl, rfl⟩ hG hr nd
  show SD _ [.val (intsT g), .val (intsT sp), .val x, .no, .no] _ _
  refine sd_set (i := 3) (d := natD (g.filter fun c => sp.contains c).length) ?_ ?_
  · refine ED.to (ed_len (.inl rfl) (LD.ed (ld_lcF 4 n__law_bad (defScope s__law_bad) [("_law_cask", 4)] g natD (fun c => sp.contains c) natD (id_tup (ev 0)) (by omega) (fun a ha s H C cl fp => ?_) (fun a ha hp s H C cl fp => ev 4))) T.len) ?_
    · exact CD.td (CD.to (cd_in (ds := sp.map natD) (.inr rfl) rfl (flat_nat _) rfl (ev 4) (ev 1)) (by rw [inV_nat]))
    · unfold natD
      rw [List.length_map]
  · show SD _ [.val (intsT g), .val (intsT sp), .val x, .val (natD (g.filter fun c => sp.contains c).length), .no] _ _
    have e0 : decide ((0 : Int) < ((g.filter fun c => sp.contains c).length : Int)) = decide (0 < (g.filter fun c => sp.contains c).length) := by
      rw [decide_eq_decide]; omega
    cases hx with
    | non =>
      refine sd_ret (ed_and2 (CD.ed (cd_gt (ev 3) ed_int)) fun _ => ed_or2 (q := false) (CD.ed (cd_isN (ev 2))) fun z => by cases z) ?_
      show PyData.bool _ = PyData.bool _
      congr 1
      unfold lawBad
      rw [e0]; rfl
    | @int f h1 h2 =>
      refine sd_ret (ed_and2 (CD.ed (cd_gt (ev 3) ed_int)) fun _ => ed_or2 (CD.ed (cd_isN (ev 2))) fun z => CD.ed (cd_ge (ed_mul ?_ (ev 3) (ev 2)) (ed_len (.inr rfl) (ev 0) T.len))) ?_
      · have := List.length_filter_le (fun c => sp.contains c) g
        exact .inl ⟨by omega, by omega⟩
      · show PyData.bool _ = PyData.bool _
        congr 1
        unfold lawBad
        rw [e0]
        show (_ && (false || _)) = (_ && _)
        rw [Bool.false_or]
        congr 1
        rw [decide_eq_decide, List.length_map]
        show _ ↔ g.length ≤ _
        rw [← cap_le h1 hz]
        omega
def R__law_answers (ds : List PyData) (d : PyData) : Prop := ∃ gs s x c, gs.length ≤ 1000 ∧ (∀ g ∈ gs, g.length ≤ 5) ∧ FD x c ∧ ds = [glassesT gs, intsT s, x] ∧ d = boolsT (gs.map fun g => lawBad g s c)
theorem w__law_answers (T : Txt mg) (M : Fn K mg "_law_answers" s__law_answers ["_law_glasses", "_law_spoilt", "_law_faint"]) (D1 : Def P w K mg base 1 "_law_bad" 3 R__law_bad) : Def P w K mg base 2 "_law_answers" 3 R__law_answers := by
  refine def_fn 1 M sc__law_answers (fun ds d ⟨_, _, _, _, _, _, _, e, _⟩ => by rw [e]; rfl) ?_
  rintro f cdv A outer s H E _ _ ⟨gs, sp, x, c, hz, hl, hx, rfl, rfl⟩ hG hr nd
  show SD _ [.val (glassesT gs), .val (intsT sp), .val x, .no] _ _
  refine sd_ret (ED.to (ed_tuple (LD.ed (ld_lc 3 n__law_answers (defScope s__law_answers) [("_law_glass", 3)] gs intsT (fun g => .bool (lawBad g sp c)) (id_tup (ev 0)) (by omega) (fun g hg s H C cl fp => ?_))) T.tuple) ?_) rfl
  · exact ed_fn 1 D1 hr hG (ad_cons (ev 3) (ad_cons (ev 1) (ad_cons (ev 2) ad_nil))) ⟨g, sp, x, c, hl g hg, hx, rfl, rfl⟩
  · unfold boolsT
    rw [List.map_map]; rfl
end
end C9
set_option Elab.async false
set_option linter.all false
set_option maxRecDepth 100000
set_option maxHeartbeats 1000000
namespace C9
open PySem PySem.Spec PyProof.Rows L2
theorem bnd_sets : ∀ n ≤ 5, ∀ k ≤ 5, (lastSets n k).length ≤ 32 ∧ (everySet n k).length ≤ 32 := by decide +kernel
theorem all5_len : ∀ l ∈ everySet 5 5, l.length ≤ 5 := by decide +kernel
theorem all5_asc : ∀ l ∈ everySet 5 5, (l.zip (l.drop 1)).all (fun q => decide (q.1 < q.2)) = true := by decide +kernel
theorem all5_in : ∀ n ≤ 5, ∀ k ≤ 5, ∀ l ∈ everySet n k, l ∈ everySet 5 5 := by decide +kernel
theorem last5_in : ∀ n ≤ 5, ∀ k ≤ 5, ∀ l ∈ lastSets n k, l ∈ everySet 5 5 := by decide +kernel
theorem all5_lt : ∀ n ≤ 5, ∀ k ≤ 5, ∀ l ∈ everySet n k, ∀ x ∈ l, x < n := by decide +kernel
def optD : Option Nat → PyData
  | none => .none
  | some n => natD n
theorem atI_last (l : List Nat) (h : l ≠ []) : atI (l.map natD) (-1) = some (natD (l.getLastD 0)) := by
  have hp : 0 < l.length := List.length_pos_iff.mpr h
  have e : ixN (l.map natD).length (-1) = some (l.length - 1) := by
    unfold ixN
    rw [List.length_map, if_neg (by omega), if_pos (by omega)]
    congr 1
    omega
  unfold atI
  rw [e]
  show (l.map natD)[l.length - 1]? = _
  rw [List.getElem?_map, ← List.getLast?_eq_getElem?, List.getLastD_eq_getLast?]
  cases hq : l.getLast? with
  | none => exact absurd (List.getLast?_eq_none_iff.mp hq) h
  | some x => rfl
theorem rangeD_len (lo : Int) (n : Nat) : (rangeD lo n).length = n := by unfold rangeD; rw [List.length_map, List.length_range]
theorem rangeD_get {lo : Int} {n k : Nat} {d : PyData} (h : (rangeD lo n)[k]? = some d) : k < n ∧ d = .int (lo + (k : Int)) := by
  have h1 : k < n := by
    have := (List.getElem?_eq_some_iff.mp h).1
    rwa [rangeD_len] at this
  refine ⟨h1, ?_⟩
  unfold rangeD at h
  rw [List.getElem?_map, List.getElem?_range h1] at h
  exact (Option.some.inj h).symm
theorem rangeD_nat (n : Nat) : rangeD 0 n = (List.range n).map natD := by
  unfold rangeD
  exact List.map_congr_left fun i _ => by show PyData.int (0 + (i : Int)) = PyData.int (i : Int); rw [Int.zero_add]
theorem get_bools {t : List Bool} {i : Nat} (h : i < t.length) : (t.map PyData.bool)[i]? = some (.bool (at2 t i)) := by
  rw [List.getElem?_map, List.getElem?_eq_getElem h]
  unfold at2
  rw [List.getD_eq_getElem?_getD, List.getElem?_eq_getElem h]; rfl
section
variable {P : Program} {w : World} {K : PySem.W.Frag} {mg : Str → Option Value} {base : Heap}
def R_is_ascending (ds : List PyData) (d : PyData) : Prop := ∃ (l : List Nat) (o : Option Nat), l ∈ everySet 5 5 ∧ (∀ N, o = some N → ∀ x ∈ l, x < N) ∧ ds = [intsT l, optD o] ∧ d = .bool true
theorem w_is_ascending (T : Txt mg) (M : Fn K mg "is_ascending" s_is_ascending ["value", "number"]) (D1 : Def P w K mg base 1 "is_integer" 1 R_is_integer) : Def P w K mg base 2 "is_ascending" 2 R_is_ascending := by
  refine def_fn 1 M sc_is_ascending (fun ds d ⟨_, _, _, _, e, _⟩ => by rw [e]; rfl) ?_
  rintro f cdv A outer s H E _ _ ⟨l, o, hl, ho, rfl, rfl⟩ hG hr nd
  show SD _ [.val (intsT l), .val (optD o), .no, .no, .no] _ _
  have h5 := all5_len l hl
  have e1 : ∀ m : List Nat, (m.map fun _ => true).all id = true := fun m => by simp
  refine sd_skip (td_or2 (td_not (td_v (ed_isi (ev 0) rfl rfl T.isinstance T.tuple))) fun _ => td_not (td_v (ed_all (bs := l.map fun _ => true) (ED.to (LD.ed (ld_lc 2 n_is_ascending (defScope s_is_ascending) [("part", 2)] l natD (fun _ => .bool true) (id_tup (ev 0)) (by omega) (fun g hg s H C cl fp => ?_))) ?_) T.all))) ?_ ?_
  · refine ED.to (ed_and2 (ed_fn 1 D1 hr hG (ad_cons (ev 2) ad_nil) ⟨g, rfl, rfl⟩) fun _ => CD.ed (cd_ge (ev 2) ed_int)) ?_
    rw [decide_eq_true (by omega)]; rfl
  · rw [List.map_map]; rfl
  · show SD _ [.val (intsT l), .val (optD o), .no, .no, .no] _ _
    refine sd_skip (td_not (td_v (ed_all (bs := (l.zip (l.drop 1)).map fun q => decide (q.1 < q.2)) (ED.to (LD.ed (ld_lcP 3 4 n_is_ascending (defScope s_is_ascending) [("one", 3), ("other", 4)] (l.zip (l.drop 1)) (fun q => natD q.1) (fun q => natD q.2) (fun q => .bool (decide (q.1 < q.2))) (ID.to (id_zipT (ev 0) (ed_dropT (j := 1) rfl (ev 0) ed_int) ?_ T.zip) ?_) ?_ (fun g hg s H C cl fp => ?_))) ?_) T.all))) ?_ ?_
    · rw [List.length_drop, List.length_map]; omega
    · rw [← List.map_drop, List.zip_map, List.map_map]; rfl
    · rw [List.length_zip]; omega
    · exact CD.ed (CD.to (cd_lt (ev 3) (ev 4)) (by rw [show decide ((g.1 : Int) < (g.2 : Int)) = decide (g.1 < g.2) from by rw [decide_eq_decide]; omega]))
    · rw [List.map_map]; rfl
    · show SD _ [.val (intsT l), .val (optD o), .no, .no, .no] _ _
      cases o with
      | none => exact sd_ret (ed_or3 (q := false) (r := false) (CD.ed (cd_isN (ev 1))) (fun z => by cases z) (fun z => by cases z)) rfl
      | some N =>
        by_cases hn : l = []
        · subst hn
          exact sd_ret (ed_or3 (r := false) (CD.ed (cd_isN (ev 1))) (fun _ => CD.ed (cd_eqE (x := []) (y := []) hr ec_intsT (ev 0) (ed_tup ad_nil (by decide)))) (fun _ z => by cases z)) rfl
        · refine sd_ret (ed_or3 (CD.ed (cd_isN (ev 1))) (fun _ => CD.ed (cd_eqE (x := l) (y := []) hr ec_intsT (ev 0) (ed_tup ad_nil (by decide)))) (fun _ _ => CD.ed (cd_lt (ed_ix (.inr rfl) (atI_last l hn) (ev 0) (ed_neg ed_int)) (ev 1)))) ?_
          show PyData.bool _ = _
          have h1 : l.getLastD 0 < N := by
            refine ho N rfl _ ?_
            rw [List.getLastD_eq_getLast?]
            cases hq : l.getLast? with
            | none => exact absurd (List.getLast?_eq_none_iff.mp hq) hn
            | some x => exact List.mem_of_getLast? hq
          rw [decide_eq_true (show ((l.getLastD 0 : Nat) : Int) < (N : Int) by omega)]
          simp
    · rw [List.all_map]
      show (!((l.zip (l.drop 1)).all fun q => decide (q.1 < q.2))) = false
      rw [all5_asc l hl]; rfl
  · rw [e1]; rfl
end
end C9
set_option Elab.async false
set_option linter.all false
set_option maxRecDepth 100000
set_option maxHeartbeats 1000000
namespace C9
open PySem PySem.Spec PyProof.Rows L2
section
variable {P : Program} {w : World} {K : PySem.W.Frag} {mg : Str → Option Value} {base : Heap}
/-- glasses that are right: not empty, ascending, below o -/
def GsOk (gs : List (List Nat)) (o : Option Nat) : Prop := gs.length ≤ 1000 ∧ ∀ g ∈ gs, g ≠ [] ∧ g ∈ everySet 5 5 ∧ ∀ N, o = some N → ∀ x ∈ g, x < N
def R_need_glasses (ds : List PyData) (d : PyData) : Prop := ∃ gs o, GsOk gs o ∧ ds = [glassesT gs, optD o] ∧ d = .none
theorem w_need_glasses (T : Txt mg) (M : Fn K mg "need_glasses" s_need_glasses ["glasses", "number"]) (D1 : Def P w K mg base 2 "is_ascending" 2 R_is_ascending) : Def P w K mg base 3 "need_glasses" 2 R_need_glasses := by
  refine def_fn 2 M sc_need_glasses (fun ds d ⟨_, _, _, e, _⟩ => by rw [e]; rfl) ?_
  rintro f cdv A outer s H E _ _ ⟨gs, o, hg, rfl, rfl⟩ hG hr nd
  show SD _ [.val (glassesT gs), .val (optD o), .no] _ _
  have e1 : ∀ m : List (List Nat), (m.map fun _ => true).all id = true := fun m => by simp
  refine sd_skip (td_or2 (td_not (td_v (ed_isi (ev 0) rfl rfl T.isinstance T.tuple))) fun _ => td_not (td_v (ed_all (bs := gs.map fun _ => true) (ED.to (LD.ed (ld_lc 2 n_need_glasses (defScope s_need_glasses) [("glass", 2)] gs intsT (fun _ => .bool true) (id_tup (ev 0)) (by have := hg.1; omega) (fun g h s H C cl fp => ?_))) ?_) T.all))) ?_ ?_
  · have q := hg.2 g h
    refine ED.to (ed_and2 (CD.ed (cd_neE (x := g) (y := []) hr ec_intsT (ev 2) (ed_tup ad_nil (by decide)))) fun _ => ed_fn 2 D1 hr hG (ad_cons (ev 2) (ad_cons (ev 1) ad_nil)) ⟨g, o, q.2.1, q.2.2, rfl, rfl⟩) ?_
    rw [decide_eq_false q.1]; rfl
  · rw [List.map_map]; rfl
  · exact sd_nil rfl
  · rw [e1]; rfl
def R_answers (ds : List PyData) (d : PyData) : Prop := ∃ gs s x c, GsOk gs none ∧ s ∈ everySet 5 5 ∧ FD x c ∧ ds = [glassesT gs, intsT s, x] ∧ d = boolsT (toldBy gs s c)
theorem w_answers (T : Txt mg) (M : Fn K mg "answers" s_answers ["glasses", "spoilt", "faint"]) (D1 : Def P w K mg base 3 "need_glasses" 2 R_need_glasses) (D2 : Def P w K mg base 2 "is_ascending" 2 R_is_ascending) (D3 : Def P w K mg base 2 "need_faint" 1 R_need_faint) (D4 : Def P w K mg base 2 "told_by" 3 R_told_by) :
    Def P w K mg base 4 "answers" 3 R_answers := by
  refine def_fn 3 M sc_answers (fun ds d ⟨_, _, _, _, _, _, _, e, _⟩ => by rw [e]; rfl) ?_
  rintro f cdv A outer s H E _ _ ⟨gs, sp, x, c, hg, hs, hx, rfl, rfl⟩ hG hr nd
  show SD _ [.val (glassesT gs), .val (intsT sp), .val x] _ _
  refine sd_expr (ed_fn 3 D1 hr hG (ad_cons (ev 0) (ad_cons ed_non ad_nil)) ⟨gs, none, hg, rfl, rfl⟩) ?_
  refine sd_skip (td_not (td_fn 3 D2 hr hG (ad_cons (ev 1) (ad_cons ed_non ad_nil)) ⟨sp, none, hs, by simp, rfl, rfl⟩)) ?_
  refine sd_expr (ed_fn 3 D3 hr hG (ad_cons (ev 2) ad_nil) ⟨x, c, hx, rfl, rfl⟩) ?_
  exact sd_ret (ed_fn 3 D4 hr hG (ad_cons (ev 0) (ad_cons (ev 1) (ad_cons (ev 2) ad_nil))) ⟨gs, sp, x, c, hg.1, fun g h => all5_len g (hg.2 g h).2.1, hx, rfl, rfl⟩) rfl
def R_every_set (ds : List PyData) (d : PyData) : Prop := ∃ n m : Nat, n ≤ 5 ∧ m ≤ 5 ∧ ds = [natD n, natD m] ∧ d = setsL (everySet n m)
theorem w_every_set (T : Txt mg) (M : Fn K mg "every_set" s_every_set ["number", "most"]) : Def P w K mg base 1 "every_set" 2 R_every_set := by
  refine def_fn 0 M sc_every_set (fun ds d ⟨_, _, _, _, e, _⟩ => by rw [e]; rfl) ?_
  rintro f cdv A outer s H E _ _ ⟨n, m, hn, hm, rfl, rfl⟩ hG hr nd
  show SD _ [.val (natD n), .val (natD m), .no, .no, .no, .no, .no] _ _
  refine sd_own (i := 2) (ds := [intsT []]) (ld_lst (ad_cons (ed_tup ad_nil (by decide)) ad_nil) (by decide)) ?_
  refine sd_set (i := 3) (d := setsL [[]]) (ed_lst (ad_cons (ed_tup ad_nil (by decide)) ad_nil) (by decide)) ?_
  refine sd_for (j := 4) (id_range1 (n := (m : Int)) (by omega) (by omega) (ev 1) T.range) (fun k δ => ∃ x4 x5 x6, δ = [.val (natD n), .val (natD m), .own ((everySet n k).map intsT), .val (setsL (lastSets n k)), x4, x5, x6]) ⟨_, _, _, rfl⟩ ?_ ?_
  · rintro k d _ hk ⟨x4, x5, x6, rfl⟩
    obtain ⟨hk1, rfl⟩ := rangeD_get hk
    have hk2 : k < m := by omega
    show SD _ [.val (natD n), .val (natD m), .own ((everySet n k).map intsT), .val (setsL (lastSets n k)), .val _, x5, x6] _ _
    refine sd_setLc2 3 5 6 n_every_set (defScope s_every_set) [("one", 5), ("cask", 6)] (lastSets n k) (List.range n) intsT natD okNext (fun one c => intsT (one ++ [c])) (id_list (ev 3)) ?_ (fun one h1 s H C cl fp => ID.to (id_range1 (n := (n : Int)) (by omega) (by omega) (ev 0) T.range) ?_) (fun one h1 c hc s H C cl fp => ?_) (fun one h1 c hc hp s H C cl fp => ?_) ?_
    · have := (bnd_sets n hn k (by omega)).1
      rw [List.length_range]
      have := Nat.mul_le_mul this hn
      omega
    · exact rangeD_nat n
    · by_cases he : one = []
      · subst he
        exact td_or2 (p := true) (q := false) (TD.to (CD.td (cd_eqE (x := []) (y := []) hr ec_intsT (ev 5) (ed_tup ad_nil (by decide)))) rfl) (fun z => by cases z)
      · refine TD.to (td_or2 (CD.td (cd_eqE (x := one) (y := []) hr ec_intsT (ev 5) (ed_tup ad_nil (by decide)))) fun _ => CD.td (cd_gt (ev 6) (ed_ix (.inr rfl) (atI_last one he) (ev 5) (ed_neg ed_int)))) ?_
        rw [decide_eq_false he, Bool.false_or]
        unfold okNext
        rw [List.getLastD_eq_getLast?]
        cases hq : one.getLast? with
        | none => exact absurd (List.getLast?_eq_none_iff.mp hq) he
        | some x =>
          show decide ((x : Int) < (c : Int)) = decide (x < c)
          rw [decide_eq_decide]; omega
    · refine ED.to (ed_catT (ev 5) (ed_tup (ad_cons (ev 6) ad_nil) (by show 1 ≤ 100000; decide)) ?_) ?_
      · have : one.length ≤ 5 := all5_len one (last5_in n hn k (by omega) one h1)
        rw [List.length_map]
        show one.length + 1 ≤ _
        omega
      · show PyData.tuple (one.map natD ++ [natD c]) = PyData.tuple ((one ++ [c]).map natD)
        rw [List.map_append]; rfl
    · have e1 : PyData.list ((lastSets n k).flatMap fun a => ((List.range n).filter (okNext a)).map fun c => intsT (a ++ [c])) = setsL (lastSets n (k + 1)) := by
        show _ = PyData.list ((nextSets n (lastSets n k)).map intsT)
        unfold nextSets
        rw [List.map_flatMap]
        congr 2
        funext a
        rw [List.map_map]; rfl
      rw [e1]
      show SD _ [.val (natD n), .val (natD m), .own ((everySet n k).map intsT), .val (setsL (lastSets n (k + 1))), .val _, x5, x6] _ _
      refine sd_extend (i := 2) rfl ?_ (ev 3) (sd_nil ⟨.val (.int (0 + (k : Int))), x5, x6, ?_⟩)
      · have := (bnd_sets n hn k (by omega)).2
        have := (bnd_sets n hn (k + 1) (by omega)).1
        rw [List.length_map, List.length_map]
        omega
      · show [_, _, Sl.own ((everySet n k).map intsT ++ (lastSets n (k + 1)).map intsT), _, _, _, _] = _
        rw [← List.map_append]
        rfl
  · rintro _ ⟨x4, x5, x6, rfl⟩
    rw [rangeD_len, Int.toNat_natCast]
    exact sd_freeze (i := 2) rfl (sd_ret (ev 2) rfl)
def R_parted (ds : List PyData) (d : PyData) : Prop := ∃ bs t, bs.length ≤ 1000 ∧ (∀ b ∈ bs, b.length ≤ 1000 ∧ ∀ i ∈ b, i < t.length) ∧ ds = [blocksL bs, boolsT t] ∧ d = blocksL (parted bs t)
theorem w_parted (T : Txt mg) (M : Fn K mg "parted" s_parted ["blocks", "told"]) : Def P w K mg base 1 "parted" 2 R_parted := by
  refine def_fn 0 M sc_parted (fun ds d ⟨_, _, _, _, e, _⟩ => by rw [e]; rfl) ?_
  rintro f cdv A outer s H E _ _ ⟨bs, t, hz, hb, rfl, rfl⟩ hG hr nd
  show SD _ [.val (blocksL bs), .val (boolsT t), .no, .no, .no] _ _
  have blen : ∀ k, ((bs.take k).flatMap (halves t)).length ≤ 2 * k := fun k => by
    rw [List.length_flatMap]
    have : ∀ l : List (List Nat), (l.map fun b => (halves t b).length).sum = 2 * l.length := fun l => by
      induction l with
      | nil => rfl
      | cons b l ih => rw [List.map_cons, List.sum_cons, ih, List.length_cons]; show 2 + _ = _; omega
    rw [this, List.length_take]
    omega
  refine sd_own (i := 2) (ds := []) (ld_lst ad_nil (by decide)) ?_
  refine sd_for (j := 3) (id_list (ev 0)) (fun k δ => ∃ x3 x4, δ = [.val (blocksL bs), .val (boolsT t), .own (((bs.take k).flatMap (halves t)).map intsL), x3, x4]) ⟨_, _, rfl⟩ ?_ ?_
  · rintro k d _ hk ⟨x3, x4, rfl⟩
    rw [List.getElem?_map] at hk
    cases hq : bs[k]? with
    | none => rw [hq] at hk; cases hk
    | some b =>
      rw [hq] at hk
      cases hk
      obtain ⟨hk1, rfl⟩ := List.getElem?_eq_some_iff.mp hq
      have hm := hb _ (List.getElem_mem hk1)
      have hbl := blen k
      show SD _ [.val (blocksL bs), .val (boolsT t), .own (((bs.take k).flatMap (halves t)).map intsL), .val (intsL bs[k]), x4] _ _
      refine sd_append (i := 2) (d := intsL (bs[k].filter (at2 t))) rfl (by rw [List.length_map]; omega) (LD.ed (ld_lcF 4 n_parted (defScope s_parted) [("at", 4)] bs[k] natD (at2 t) natD (id_list (ev 3)) (by omega) (fun a ha s H C cl fp => ?_) (fun a ha hp s H C cl fp => ev 4))) ?_
      · exact td_v (ed_ixN (.inr rfl) rfl (get_bools (hm.2 a ha)) (ev 1) (ev 4))
      show SD _ [.val (blocksL bs), .val (boolsT t), .own (((bs.take k).flatMap (halves t)).map intsL ++ [intsL (bs[k].filter (at2 t))]), .val (intsL bs[k]), x4] _ _
      refine sd_append (i := 2) (d := intsL (bs[k].filter fun i => !at2 t i)) rfl (by rw [List.length_append, List.length_map]; show _ + 1 < _; omega) (LD.ed (ld_lcF 4 n_parted (defScope s_parted) [("at", 4)] bs[k] natD (fun i => !at2 t i) natD (id_list (ev 3)) (by omega) (fun a ha s H C cl fp => ?_) (fun a ha hp s H C cl fp => ev 4))) (sd_nil ⟨.val (intsL bs[k]), x4, ?_⟩)
      · exact td_not (td_v (ed_ixN (.inr rfl) rfl (get_bools (hm.2 a ha)) (ev 1) (ev 4)))
      · show [_, _, Sl.own ((((bs.take k).flatMap (halves t)).map intsL ++ [intsL (bs[k].filter (at2 t))]) ++ [intsL (bs[k].filter fun i => !at2 t i)]), _, _] = _
        rw [List.take_succ, hq, List.flatMap_append, List.map_append, List.append_assoc]
        rfl
  · rintro _ ⟨x3, x4, rfl⟩
    rw [List.length_map, List.take_length]
    have hbl := blen bs.length
    rw [List.take_length] at hbl
    refine sd_freeze (i := 2) rfl ?_
    refine sd_ret (LD.ed (ld_lcF 3 n_parted (defScope s_parted) [("block", 3)] (bs.flatMap (halves t)) intsL (fun b => decide (1 < b.length)) intsL (id_list (ev 2)) (by omega) (fun a ha s H C cl fp => ?_) (fun a ha hp s H C cl fp => ev 3))) rfl
    refine CD.td (CD.to (cd_gt (ed_len (.inl rfl) (ev 3) T.len) ed_int) ?_)
    rw [show decide ((1 : Int) < ((a.map natD).length : Int)) = decide (1 < a.length) from by rw [decide_eq_decide, List.length_map]; omega]
end
end C9
set_option Elab.async false
set_option linter.all false
set_option maxRecDepth 100000
set_option maxHeartbeats 1000000
namespace C9
open PySem PySem.Spec PyProof.Rows L2
def pairD (q : List Nat × List Bool) : PyData := .tuple [intsT q.1, boolsT q.2]
def gtL (l : List (List Nat × List Bool)) : PyData := .list (l.map pairD)
def kvsD (l : List (List Bool × List Nat)) : List (List Bool × PyData) := l.map fun kv => (kv.1, intsT kv.2)
theorem kvs_any (l : List (List Bool × List Nat)) (t : List Bool) : ((kvsD l).any fun kv => decide (kv.1 = t)) = l.any fun kv => decide (kv.1 = t) := by
  unfold kvsD
  rw [List.any_map]; rfl
theorem unlike_len (sets : List (List Nat)) (c : Option Nat) : ∀ (l : List (List Nat)) (acc : List (List Bool × List Nat)), (l.foldl (unlikeStep sets c) acc).length ≤ acc.length + l.length
  | [], acc => Nat.le_refl _
  | g :: l, acc => by
    refine Nat.le_trans (unlike_len sets c l _) ?_
    unfold unlikeStep
    rw [List.length_cons]
    dsimp only
    split
    · omega
    · rw [List.length_append]; show _ + 1 + _ ≤ _; omega
theorem noDups_nodup : ∀ {l : List (List Bool)}, noDups l = true → l.Nodup
  | [], _ => List.nodup_nil
  | x :: l, h => by
    have h1 := Bool.and_eq_true_iff.mp (show (!l.contains x && noDups l) = true from h)
    refine List.nodup_cons.mpr ⟨fun hm => ?_, noDups_nodup h1.2⟩
    have := h1.1
    rw [List.contains_iff_mem.mpr hm] at this
    cases this
section
variable {P : Program} {w : World} {K : PySem.W.Frag} {mg : Str → Option Value} {base : Heap}
def R_unlike (ds : List PyData) (d : PyData) : Prop := ∃ n sets x c, n ≤ 5 ∧ sets.length ≤ 1000 ∧ FD x c ∧ ds = [natD n, setsL sets, x] ∧ d = gtL (glassesOf n sets c)
theorem w_unlike_glasses (T : Txt mg) (M : Fn K mg "unlike_glasses" s_unlike_glasses ["number", "sets", "faint"]) (D1 : Def P w K mg base 1 "every_set" 2 R_every_set) (D2 : Def P w K mg base 1 "is_bad" 3 R_is_bad) : Def P w K mg base 2 "unlike_glasses" 3 R_unlike := by
  refine def_fn 1 M sc_unlike_glasses (fun ds d ⟨_, _, _, _, _, _, _, e, _⟩ => by rw [e]; rfl) ?_
  rintro f cdv A outer s H E _ _ ⟨n, sets, x, c, hn, hz, hx, rfl, rfl⟩ hG hr nd
  show SD _ [.val (natD n), .val (setsL sets), .val x, .no, .no, .no, .no] _ _
  have hu := un64 hr
  have e0 : ((everySet n n).map intsT).drop 1 = ((everySet n n).drop 1).map intsT := List.map_drop.symm
  have hlen := (bnd_sets n hn n hn).2
  refine sd_dnew (i := 3) ?_
  refine sd_for (j := 4) (ID.to (id_list (ed_dropL (j := 1) rfl (ed_fn 1 D1 hr hG (ad_cons (ev 0) (ad_cons (ev 0) ad_nil)) ⟨n, n, hn, hn, rfl, rfl⟩) ed_int)) e0) (fun k δ => ∃ x4 x5 x6, δ = [.val (natD n), .val (setsL sets), .val x, .dct (kvsD ((((everySet n n).drop 1).take k).foldl (unlikeStep sets c) [])), x4, x5, x6]) ⟨_, _, _, rfl⟩ ?_ ?_
  · rintro k d _ hk ⟨x4, x5, x6, rfl⟩
    rw [List.getElem?_map] at hk
    cases hq : ((everySet n n).drop 1)[k]? with
    | none => rw [hq] at hk; cases hk
    | some g =>
      rw [hq] at hk
      cases hk
      have hg5 : g.length ≤ 5 := all5_len g (all5_in n hn n hn g (List.mem_of_mem_drop (List.mem_of_getElem? hq)))
      have hkl : k < ((everySet n n).drop 1).length := (List.getElem?_eq_some_iff.mp hq).1
      rw [List.length_drop] at hkl
      have hacc := unlike_len sets c (((everySet n n).drop 1).take k) []
      rw [List.length_take, List.length_nil] at hacc
      have ek : ((everySet n n).drop 1).take (k + 1) = ((everySet n n).drop 1).take k ++ [g] := by rw [List.take_succ, hq]; rfl
      rw [ek, List.foldl_append]
      show SD _ [.val (natD n), .val (setsL sets), .val x, .dct (kvsD ((((everySet n n).drop 1).take k).foldl (unlikeStep sets c) [])), .val (intsT g), x5, x6] _ _
      generalize (((everySet n n).drop 1).take k).foldl (unlikeStep sets c) [] = acc at hacc ⊢
      refine sd_set (i := 5) (d := boolsT (sets.map fun s => isBad g s c)) (ED.to (ed_tuple (LD.ed (ld_lc 6 n_unlike_glasses (defScope s_unlike_glasses) [("spoilt", 6)] sets intsT (fun s => .bool (isBad g s c)) (id_list (ev 1)) (by omega) (fun s hs s H C cl fp => ed_fn 1 D2 hr hG (ad_cons (ev 4) (ad_cons (ev 6) (ad_cons (ev 2) ad_nil))) ⟨g, _, x, c, hg5, hx, rfl, rfl⟩))) T.tuple) ?_) ?_
      · unfold boolsT
        rw [List.map_map]; rfl
      · show SD _ [.val (natD n), .val (setsL sets), .val x, .dct (kvsD acc), .val (intsT g), .val (boolsT (sets.map fun s => isBad g s c)), x6] _ _
        have es : [g].foldl (unlikeStep sets c) acc = if acc.any (fun kv => decide (kv.1 = sets.map fun s => isBad g s c)) then acc else acc ++ [(sets.map fun s => isBad g s c, g)] := rfl
        rw [es]
        by_cases hb : (acc.any fun kv => decide (kv.1 = sets.map fun s => isBad g s c)) = true
        · rw [if_pos hb]
          exact sd_skip (p := false) (TD.to (td_notInB (i := 3) (ks := sets.map fun s => isBad g s c) rfl (by omega) (ev 5)) (by rw [kvs_any, hb]; rfl)) (sd_nil ⟨_, _, _, rfl⟩)
        · rw [if_neg hb]
          have hb' := Bool.eq_false_iff.mpr hb
          refine sd_yes (p := true) (TD.to (td_notInB (i := 3) (ks := sets.map fun s => isBad g s c) rfl (by omega) (ev 5)) (by rw [kvs_any, hb']; rfl)) (sd_dput (i := 3) (ks := sets.map fun s => isBad g s c) (d := intsT g) rfl (by omega) (ev 5) (ev 4) (by rw [kvs_any]; exact hb') ?_ (sd_nil (sd_nil ⟨.val (intsT g), .val (boolsT (sets.map fun s => isBad g s c)), x6, ?_⟩)))
          · unfold kvsD; rw [List.length_map]; omega
          · unfold kvsD
            rw [List.map_append]; rfl
  · rintro _ ⟨x4, x5, x6, rfl⟩
    rw [List.length_map, List.take_length]
    show SD _ [.val (natD n), .val (setsL sets), .val x, .dct (kvsD (unlike n sets c)), x4, x5, x6] _ _
    have hl : (unlike n sets c).length ≤ 1000 := by
      have := unlike_len sets c ((everySet n n).drop 1) []
      rw [List.length_drop, List.length_nil] at this
      exact Nat.le_trans this (by omega)
    refine sd_freezeD (i := 3) rfl ?_
    refine sd_ret (LD.ed (ld_lcP 5 4 n_unlike_glasses (defScope s_unlike_glasses) [("told", 5), ("glass", 4)] (unlike n sets c) (fun kv => boolsT kv.1) (fun kv => intsT kv.2) (fun kv => pairD (kv.2, kv.1)) (ID.to (id_items (i := 3) rfl) ?_) (by omega) (fun kv hkv s H C cl fp => ed_tup (ad_cons (ev 4) (ad_cons (ev 5) ad_nil)) (by show 2 ≤ 100000; decide)))) ?_
    · unfold kvsD
      rw [List.map_map]; rfl
    · show PyData.list _ = PyData.list (((unlike n sets c).map fun kv => (kv.2, kv.1)).map pairD)
      rw [List.map_map]; rfl
end
end C9
set_option Elab.async false
set_option linter.all false
set_option maxRecDepth 100000
set_option maxHeartbeats 1000000
namespace C9
open PySem PySem.Spec PyProof.Rows L2
section
variable {P : Program} {w : World} {K : PySem.W.Frag} {mg : Str → Option Value} {base : Heap}
def R_alike_pair (ds : List PyData) (d : PyData) : Prop := ∃ n m gs x c, 1 ≤ n ∧ n ≤ 5 ∧ m ≤ n ∧ GsOk gs (some n) ∧ FD x c ∧ noDups ((everySet n m).map fun s => toldBy gs s c) = true ∧ ds = [natD n, natD m, glassesT gs, x] ∧ d = .none
theorem w_alike_pair (T : Txt mg) (M : Fn K mg "alike_pair" s_alike_pair ["number", "most", "glasses", "faint"]) (D1 : Def P w K mg base 3 "need_numbers" 2 R_need_numbers) (D2 : Def P w K mg base 3 "need_glasses" 2 R_need_glasses) (D3 : Def P w K mg base 2 "need_faint" 1 R_need_faint)
    (D4 : Def P w K mg base 2 "told_by" 3 R_told_by) (D5 : Def P w K mg base 1 "every_set" 2 R_every_set) : Def P w K mg base 4 "alike_pair" 4 R_alike_pair := by
  refine def_fn 3 M sc_alike_pair (fun ds d ⟨_, _, _, _, _, _, _, _, _, _, _, e, _⟩ => by rw [e]; rfl) ?_
  rintro f cdv A outer s H E _ _ ⟨n, m, gs, x, c, h1, h2, h3, hg, hx, hd, rfl, rfl⟩ hG hr nd
  show SD _ [.val (natD n), .val (natD m), .val (glassesT gs), .val x, .no, .no, .no] _ _
  have hu := un64 hr
  have hlen := (bnd_sets n h2 m (by omega)).2
  have hnd := noDups_nodup hd
  refine sd_expr (ed_fn 3 D1 hr hG (ad_cons (ev 0) (ad_cons (ev 1) ad_nil)) ⟨n, m, h1, h2, h3, rfl, rfl⟩) ?_
  refine sd_expr (ed_fn 3 D2 hr hG (ad_cons (ev 2) (ad_cons (ev 0) ad_nil)) ⟨gs, some n, hg, rfl, rfl⟩) ?_
  refine sd_expr (ed_fn 3 D3 hr hG (ad_cons (ev 3) ad_nil) ⟨x, c, hx, rfl, rfl⟩) ?_
  refine sd_dnew (i := 4) ?_
  refine sd_for (j := 5) (id_list (ed_fn 3 D5 hr hG (ad_cons (ev 0) (ad_cons (ev 1) ad_nil)) ⟨n, m, h2, by omega, rfl, rfl⟩)) (fun k δ => ∃ x4 x5, δ = [.val (natD n), .val (natD m), .val (glassesT gs), .val x, .dct (kvsD (((everySet n m).take k).map fun s => (toldBy gs s c, s))), x4, x5]) ⟨_, _, rfl⟩ ?_ ?_
  · rintro k d _ hk ⟨x4, x5, rfl⟩
    rw [List.getElem?_map] at hk
    cases hq : (everySet n m)[k]? with
    | none => rw [hq] at hk; cases hk
    | some sp =>
      rw [hq] at hk
      cases hk
      have ek : (everySet n m).take (k + 1) = (everySet n m).take k ++ [sp] := by rw [List.take_succ, hq]; rfl
      have hkl : k < (everySet n m).length := (List.getElem?_eq_some_iff.mp hq).1
      have hno : (((everySet n m).take k).map fun s => (toldBy gs s c, s)).any (fun kv => decide (kv.1 = toldBy gs sp c)) = false := by
        rw [List.any_map]
        rw [← List.take_append_drop (k + 1) (everySet n m), ek] at hnd
        rw [List.map_append, List.map_append] at hnd
        have h4 := (List.nodup_append.mp hnd).1
        have h5 := (List.nodup_append.mp h4).2.2
        rw [Bool.eq_false_iff]
        intro z
        obtain ⟨s', hs', e⟩ := List.any_eq_true.mp z
        exact h5 _ (List.mem_map.mpr ⟨s', hs', rfl⟩) _ (List.mem_map.mpr ⟨sp, List.mem_singleton.mpr rfl, rfl⟩) (of_decide_eq_true e)
      show SD _ [.val (natD n), .val (natD m), .val (glassesT gs), .val x, .dct (kvsD (((everySet n m).take k).map fun s => (toldBy gs s c, s))), .val (intsT sp), x5] _ _
      refine sd_set (i := 6) (d := boolsT (toldBy gs sp c)) (ed_fn 3 D4 hr hG (ad_cons (ev 2) (ad_cons (ev 5) (ad_cons (ev 3) ad_nil))) ⟨gs, sp, x, c, hg.1, fun g h => all5_len g (hg.2 g h).2.1, hx, rfl, rfl⟩) ?_
      refine sd_skip (p := false) (TD.to (td_inB (i := 4) (ks := toldBy gs sp c) rfl (by omega) (ev 6)) (by rw [kvs_any, hno])) ?_
      refine sd_dput (i := 4) (ks := toldBy gs sp c) (d := intsT sp) rfl (by omega) (ev 6) (ev 5) (by rw [kvs_any, hno]) ?_ (sd_nil ⟨.val (intsT sp), .val (boolsT (toldBy gs sp c)), ?_⟩)
      · unfold kvsD; rw [List.length_map, List.length_map, List.length_take]; omega
      · rw [ek]
        unfold kvsD
        rw [List.map_append, List.map_append]; rfl
  · rintro _ ⟨x4, x5, rfl⟩
    exact sd_ret ed_non rfl
def R_finds (ds : List PyData) (d : PyData) : Prop := ∃ n m gs x c, 1 ≤ n ∧ n ≤ 5 ∧ m ≤ n ∧ GsOk gs (some n) ∧ FD x c ∧ noDups ((everySet n m).map fun s => toldBy gs s c) = true ∧ ds = [natD n, natD m, glassesT gs, x] ∧ d = .bool true
theorem w_finds (T : Txt mg) (M : Fn K mg "finds" s_finds ["number", "most", "glasses", "faint"]) (D1 : Def P w K mg base 4 "alike_pair" 4 R_alike_pair) : Def P w K mg base 5 "finds" 4 R_finds := by
  refine def_fn 4 M sc_finds (fun ds d ⟨_, _, _, _, _, _, _, _, _, _, _, e, _⟩ => by rw [e]; rfl) ?_
  rintro f cdv A outer s H E _ _ ⟨n, m, gs, x, c, h1, h2, h3, hg, hx, hd, rfl, rfl⟩ hG hr nd
  show SD _ [.val (natD n), .val (natD m), .val (glassesT gs), .val x] _ _
  exact sd_ret (CD.ed (cd_isN (ed_fn 4 D1 hr hG (ad_cons (ev 0) (ad_cons (ev 1) (ad_cons (ev 2) (ad_cons (ev 3) ad_nil)))) ⟨n, m, gs, x, c, h1, h2, h3, hg, hx, hd, rfl, rfl⟩))) rfl
def R_fitting (ds : List PyData) (d : PyData) : Prop := ∃ n m gs x c t, 1 ≤ n ∧ n ≤ 5 ∧ m ≤ n ∧ GsOk gs (some n) ∧ FD x c ∧ t.length = gs.length ∧ ds = [natD n, natD m, glassesT gs, x, boolsT t] ∧ d = setsL ((everySet n m).filter fun s => decide (toldBy gs s c = t))
theorem w_fitting (T : Txt mg) (M : Fn K mg "fitting" s_fitting ["number", "most", "glasses", "faint", "told"]) (D1 : Def P w K mg base 3 "need_numbers" 2 R_need_numbers) (D2 : Def P w K mg base 3 "need_glasses" 2 R_need_glasses) (D3 : Def P w K mg base 2 "need_faint" 1 R_need_faint)
    (D4 : Def P w K mg base 2 "told_by" 3 R_told_by) (D5 : Def P w K mg base 1 "every_set" 2 R_every_set) : Def P w K mg base 4 "fitting" 5 R_fitting := by
  refine def_fn 3 M sc_fitting (fun ds d ⟨_, _, _, _, _, _, _, _, _, _, _, _, e, _⟩ => by rw [e]; rfl) ?_
  rintro f cdv A outer s H E _ _ ⟨n, m, gs, x, c, t, h1, h2, h3, hg, hx, ht, rfl, rfl⟩ hG hr nd
  show SD _ [.val (natD n), .val (natD m), .val (glassesT gs), .val x, .val (boolsT t), .no, .no] _ _
  have hlen := (bnd_sets n h2 m (by omega)).2
  have e1 : ∀ m : List Bool, (m.map fun _ => true).all id = true := fun m => by simp
  refine sd_expr (ed_fn 3 D1 hr hG (ad_cons (ev 0) (ad_cons (ev 1) ad_nil)) ⟨n, m, h1, h2, h3, rfl, rfl⟩) ?_
  refine sd_expr (ed_fn 3 D2 hr hG (ad_cons (ev 2) (ad_cons (ev 0) ad_nil)) ⟨gs, some n, hg, rfl, rfl⟩) ?_
  refine sd_expr (ed_fn 3 D3 hr hG (ad_cons (ev 3) ad_nil) ⟨x, c, hx, rfl, rfl⟩) ?_
  refine sd_skip (td_or3 (td_not (td_v (ed_isi (ev 4) rfl rfl T.isinstance T.tuple))) (fun _ => CD.td (cd_neI (ed_len (.inr rfl) (ev 4) T.len) (ed_len (.inr rfl) (ev 2) T.len)))
    fun _ _ => td_not (td_v (ed_all (bs := t.map fun _ => true) (ED.to (LD.ed (ld_lc 5 n_fitting (defScope s_fitting) [("bad", 5)] t PyData.bool (fun _ => .bool true) (id_tup (ev 4)) (by have := hg.1; omega) (fun b hb s H C cl fp => ed_isi (ev 5) rfl rfl T.isinstance T.bool))) ?_) T.all))) ?_ ?_
  · rw [List.map_map]; rfl
  · refine sd_ret (LD.ed (ld_lcF 6 n_fitting (defScope s_fitting) [("spoilt", 6)] (everySet n m) intsT (fun s => decide (toldBy gs s c = t)) intsT (id_list (ed_fn 3 D5 hr hG (ad_cons (ev 0) (ad_cons (ev 1) ad_nil)) ⟨n, m, h2, by omega, rfl, rfl⟩)) (by omega) (fun sp hs s H C cl fp => ?_) (fun a ha hp s H C cl fp => ev 6))) rfl
    exact CD.td (cd_eqE hr ec_boolsT (ed_fn 3 D4 hr hG (ad_cons (ev 2) (ad_cons (ev 6) (ad_cons (ev 3) ad_nil))) ⟨gs, sp, x, c, hg.1, fun g h => all5_len g (hg.2 g h).2.1, hx, rfl, rfl⟩) (ev 4))
  · rw [e1, List.length_map, List.length_map, ht, decide_eq_true rfl]; rfl
end
end C9
set_option Elab.async false
set_option linter.all false
set_option maxRecDepth 100000
set_option maxHeartbeats 1000000
namespace C9
open PySem PySem.Spec PyProof.Rows L2
/-! ### blocks -/
def BOk (L : Nat) (bs : List (List Nat)) : Prop := (∀ b ∈ bs, 2 ≤ b.length ∧ ∀ i ∈ b, i < L) ∧ (bs.map List.length).sum ≤ 1000
theorem mem_le_sum : ∀ {bs : List (List Nat)} {b : List Nat}, b ∈ bs → b.length ≤ (bs.map List.length).sum
  | b' :: bs, b, h => by
    rw [List.map_cons, List.sum_cons]
    rcases List.mem_cons.mp h with z | z
    · subst z; omega
    · have := mem_le_sum z; omega
theorem len_le_sum : ∀ {bs : List (List Nat)}, (∀ b ∈ bs, 1 ≤ b.length) → bs.length ≤ (bs.map List.length).sum
  | [], _ => Nat.le_refl _
  | b :: bs, h => by
    rw [List.map_cons, List.sum_cons, List.length_cons]
    have h1 := h b List.mem_cons_self
    have h2 := len_le_sum (bs := bs) fun b hb => h b (List.mem_cons_of_mem _ hb)
    omega
theorem two_parts (p : Nat → Bool) : ∀ l : List Nat, (l.filter p).length + (l.filter fun i => !p i).length = l.length
  | [] => rfl
  | x :: l => by
    have h := two_parts p l
    cases hp : p x <;> simp [List.filter_cons, hp] <;> omega
theorem sum_halves (t : List Bool) : ∀ bs : List (List Nat), ((bs.flatMap (halves t)).map List.length).sum = (bs.map List.length).sum
  | [] => rfl
  | b :: bs => by
    rw [List.flatMap_cons, List.map_append, List.sum_append, sum_halves t bs, List.map_cons, List.sum_cons]
    congr 1
    show (b.filter (at2 t)).length + ((b.filter fun i => !at2 t i).length + 0) = b.length
    rw [Nat.add_zero]
    exact two_parts _ b
theorem sum_filter (p : List Nat → Bool) : ∀ bs : List (List Nat), ((bs.filter p).map List.length).sum ≤ (bs.map List.length).sum
  | [] => Nat.le_refl _
  | b :: bs => by
    have h := sum_filter p bs
    cases hp : p b <;> simp [List.filter_cons, hp] at h ⊢ <;> omega
theorem BOk.len {L : Nat} {bs : List (List Nat)} (h : BOk L bs) : bs.length ≤ 1000 := Nat.le_trans (len_le_sum fun b hb => by have := (h.1 b hb).1; omega) h.2
theorem BOk.one {L : Nat} {bs : List (List Nat)} (h : BOk L bs) {b : List Nat} (hb : b ∈ bs) : b.length ≤ 1000 := Nat.le_trans (mem_le_sum hb) h.2
theorem BOk.parted {L : Nat} {bs : List (List Nat)} {t : List Bool} (h : BOk L bs) : BOk L (parted bs t) := by
  refine ⟨fun b hb => ?_, Nat.le_trans (sum_filter _ _) (by rw [sum_halves]; exact h.2)⟩
  unfold C9.parted at hb
  obtain ⟨h1, h2⟩ := List.mem_filter.mp hb
  obtain ⟨b0, hb0, h3⟩ := List.mem_flatMap.mp h1
  refine ⟨by have := of_decide_eq_true h2; omega, fun i hi => (h.1 b0 hb0).2 i ?_⟩
  unfold halves at h3
  rcases List.mem_cons.mp h3 with z | z
  · rw [z] at hi; exact (List.mem_filter.mp hi).1
  · rw [List.mem_singleton.mp z] at hi; exact (List.mem_filter.mp hi).1
theorem tooBig_max (bs : List (List Nat)) (hb : bs ≠ []) (l : Nat) : decide (((1 : Int) * 2 ^ ((l : Int)).toNat) < maxI (bs.map fun b => (b.length : Int))) = tooBig bs l := by
  have hp : 0 < (bs.map fun b => (b.length : Int)).length := by rw [List.length_map]; exact List.length_pos_iff.mpr hb
  obtain ⟨hm, hx⟩ := maxI_is _ hp
  have e2 : (1 : Int) * 2 ^ ((l : Int)).toNat = ((2 ^ l : Nat) : Int) := by
    rw [Int.one_mul, Int.toNat_natCast, Int.natCast_pow]; rfl
  rw [e2]
  unfold tooBig
  rw [Bool.eq_iff_iff, decide_eq_true_iff, List.any_eq_true]
  constructor
  · intro h
    obtain ⟨b, hb1, e⟩ := List.mem_map.mp hm
    refine ⟨b, hb1, decide_eq_true ?_⟩
    rw [← e] at h
    exact Int.ofNat_lt.mp h
  · rintro ⟨b, hb1, h⟩
    have h1 := of_decide_eq_true h
    have h2 := hx _ (List.mem_map.mpr ⟨b, hb1, rfl⟩)
    have h3 : ((2 ^ l : Nat) : Int) < (b.length : Int) := Int.ofNat_lt.mpr h1
    omega
theorem not_big0 {L : Nat} {bs : List (List Nat)} (h : BOk L bs) (hb : bs ≠ []) : tooBig bs 0 = true := by
  cases bs with
  | nil => exact absurd rfl hb
  | cons b bs =>
    refine List.any_eq_true.mpr ⟨b, List.mem_cons_self, decide_eq_true ?_⟩
    have := (h.1 b List.mem_cons_self).1
    show 1 < _
    omega
theorem chosen_nil (l : Nat) (gs : List (List Nat × List Bool)) : chosen l gs [] = some [] := by
  cases l <;> simp [chosen]
theorem chosen_big {l : Nat} {gs : List (List Nat × List Bool)} {bs : List (List Nat)} (hb : bs ≠ []) (h : tooBig bs l = true) : chosen l gs bs = none := by
  cases l <;> simp [chosen, hb, h]
theorem chosen_succ {l : Nat} {gs : List (List Nat × List Bool)} {bs : List (List Nat)} (hb : bs ≠ []) (h : tooBig bs (l + 1) = false) : chosen (l + 1) gs bs = search (chosen l) bs gs := by
  simp [chosen, hb, h]
theorem search_len {f : List (List Nat × List Bool) → List (List Nat) → Option (List (List Nat))} {l : Nat} (hf : ∀ gs bs r, f gs bs = some r → r.length ≤ l) (bs : List (List Nat)) : ∀ (gs : List (List Nat × List Bool)) (r : List (List Nat)), search f bs gs = some r → r.length ≤ l + 1
  | [], r, h => by cases h
  | (g, t) :: gs, r, h => by
    unfold search at h
    dsimp only at h
    split at h
    · exact search_len hf bs gs r h
    · split at h
      · rename_i x hx
        cases h
        have := hf _ _ _ hx
        rw [List.length_cons]; omega
      · exact search_len hf bs gs r h
theorem chosen_len : ∀ (l : Nat) (gs : List (List Nat × List Bool)) (bs r : List (List Nat)), chosen l gs bs = some r → r.length ≤ l
  | 0, gs, bs, r, h => by
    by_cases hb : bs = []
    · subst hb; rw [chosen_nil] at h; cases h; exact Nat.le_refl _
    · cases hq : tooBig bs 0 <;> simp [chosen, hb, hq] at h
  | l + 1, gs, bs, r, h => by
    by_cases hb : bs = []
    · subst hb; rw [chosen_nil] at h; cases h; exact Nat.zero_le _
    · cases hq : tooBig bs (l + 1) with
      | true => rw [chosen_big hb hq] at h; cases h
      | false =>
        rw [chosen_succ hb hq] at h
        exact search_len (chosen_len l) bs gs r h
def optGs : Option (List (List Nat)) → PyData
  | none => .none
  | some l => setsL l
section
variable {P : Program} {w : World} {K : PySem.W.Frag} {mg : Str → Option Value} {base : Heap}
def R_chosen (lim : Nat) (ds : List PyData) (d : PyData) : Prop := ∃ L gs start bs left, gs.length ≤ 1000 ∧ start ≤ gs.length ∧ (∀ q ∈ gs, q.2.length = L) ∧ BOk L bs ∧ left ≤ lim ∧ lim ≤ 10 ∧ ds = [gtL gs, natD start, blocksL bs, natD left] ∧ d = optGs (chosen left (gs.drop start) bs)
theorem w_chosen_step (T : Txt mg) (M : Fn K mg "chosen" s_chosen ["glasses", "start", "blocks", "left"]) (D1 : Def P w K mg base 1 "parted" 2 R_parted) (lim : Nat) (D2 : ∀ l, lim = l + 1 → Def P w K mg base (l + 2) "chosen" 4 (R_chosen l)) : Def P w K mg base (lim + 2) "chosen" 4 (R_chosen lim) := by
  refine def_fn (lim + 1) M sc_chosen (fun ds d ⟨_, _, _, _, _, _, _, _, _, _, _, e, _⟩ => by rw [e]; rfl) ?_
  rintro f cdv A outer s H E _ _ ⟨L, gs, start, bs, left, hz, hst, hL, hb, hle, hlim, rfl, rfl⟩ hG hr nd
  show SD _ [.val (gtL gs), .val (natD start), .val (blocksL bs), .val (natD left), .no, .no, .no, .no, .no, .no] _ _
  have hbl := hb.len
  by_cases hn : bs = []
  · subst hn
    exact sd_yes (CD.td (cd_eqE (x := []) (y := []) hr ec_blocksL (ev 2) (ed_lst ad_nil (by decide)))) (sd_ret (ed_lst ad_nil (by decide)) (by rw [chosen_nil]; rfl))
  refine sd_skip (CD.td (cd_eqE (x := bs) (y := []) hr ec_blocksL (ev 2) (ed_lst ad_nil (by decide)))) ?_ (decide_eq_false hn)
  cases hbig : tooBig bs left with
  | true =>
    refine sd_yes (p := true) (TD.to (CD.td (cd_gt (ed_max (ns := bs.map fun b => (b.length : Int)) (by rw [List.length_map]; exact List.length_pos_iff.mpr hn) (ED.to (LD.ed (ld_lc 4 n_chosen (defScope s_chosen) [("block", 4)] bs intsL (fun b => .int (b.length : Int)) (id_list (ev 2)) (by omega) (fun b h s H C cl fp => ED.to (ed_len (.inl rfl) (ev 4) T.len) (by rw [List.length_map])))) (by rw [List.map_map]; rfl)) T.max) (ed_shl (i := 1) (j := (left : Int)) (by unfold CPow; exact ⟨by omega, by omega, by decide⟩) ed_int (ev 3)))) ?_) ?_
    · rw [tooBig_max bs hn left, hbig]
    · exact sd_ret ed_non (by rw [chosen_big hn hbig]; rfl)
  | false =>
    refine sd_skip (p := false) (TD.to (CD.td (cd_gt (ed_max (ns := bs.map fun b => (b.length : Int)) (by rw [List.length_map]; exact List.length_pos_iff.mpr hn) (ED.to (LD.ed (ld_lc 4 n_chosen (defScope s_chosen) [("block", 4)] bs intsL (fun b => .int (b.length : Int)) (id_list (ev 2)) (by omega) (fun b h s H C cl fp => ED.to (ed_len (.inl rfl) (ev 4) T.len) (by rw [List.length_map])))) (by rw [List.map_map]; rfl)) T.max) (ed_shl (i := 1) (j := (left : Int)) (by unfold CPow; exact ⟨by omega, by omega, by decide⟩) ed_int (ev 3)))) ?_) ?_
    · rw [tooBig_max bs hn left, hbig]
    · cases left with
      | zero => rw [not_big0 hb hn] at hbig; cases hbig
      | succ l =>
        rw [chosen_succ hn hbig]
        cases lim with
        | zero => exact absurd hle (Nat.not_succ_le_zero l)
        | succ lim =>
          have D3 := D2 lim rfl
          generalize hR : search (chosen l) bs (gs.drop start) = R0
          refine sd_for (j := 5) (id_range2 (m := (start : Int)) (n := (gs.length : Int)) (by omega) (ev 1) (ED.to (ed_len (.inl rfl) (ev 0) T.len) (by rw [List.length_map])) T.range) (fun k δ => ∃ x4 x5 x6 x7 x8 x9, δ = [.val (gtL gs), .val (natD start), .val (blocksL bs), .val (natD (l + 1)), x4, x5, x6, x7, x8, x9] ∧ search (chosen l) bs (gs.drop (start + k)) = R0) ⟨_, _, _, _, _, _, rfl, hR⟩ ?_ ?_
          · rintro k d _ hk ⟨x4, x5, x6, x7, x8, x9, rfl, hI⟩
            obtain ⟨hk1, rfl⟩ := rangeD_get hk
            have hk2 : start + k < gs.length := by omega
            have hq : gs[start + k]? = some gs[start + k] := List.getElem?_eq_getElem hk2
            have ed : gs.drop (start + k) = gs[start + k] :: gs.drop (start + (k + 1)) := (List.drop_eq_getElem_cons hk2)
            rw [ed] at hI
            have hm : gs[start + k] ∈ gs := List.getElem_mem hk2
            generalize gs[start + k] = q at hq hI hm
            obtain ⟨g, t⟩ := q
            have hte := hL _ hm
            unfold search at hI
            dsimp only at hI
            show SD _ [.val (gtL gs), .val (natD start), .val (blocksL bs), .val (natD (l + 1)), x4, .val (.int ((start : Int) + (k : Int))), x6, x7, x8, x9] _ _
            refine sd_tup2 (i := 6) (j := 7) (d1 := intsT g) (d2 := boolsT t) (ed_ixN (i := (start : Int) + (k : Int)) (j := start + k) (ds := gs.map pairD) (.inl rfl) (by omega) (by rw [List.getElem?_map, hq]; rfl) (ev 0) (ev 5)) ?_
            show SD _ [.val (gtL gs), .val (natD start), .val (blocksL bs), .val (natD (l + 1)), x4, .val (.int ((start : Int) + (k : Int))), .val (intsT g), .val (boolsT t), x8, x9] _ _
            refine sd_set (i := 8) (d := blocksL (parted bs t)) (ed_fn (lim + 2) D1 hr hG (ad_cons (ev 2) (ad_cons (ev 7) ad_nil)) ⟨bs, t, hbl, fun b h => ⟨hb.one h, fun i hi => by rw [hte]; exact (hb.1 b h).2 i hi⟩, rfl, rfl⟩ (by omega)) ?_
            show SD _ [.val (gtL gs), .val (natD start), .val (blocksL bs), .val (natD (l + 1)), x4, .val (.int ((start : Int) + (k : Int))), .val (intsT g), .val (boolsT t), .val (blocksL (parted bs t)), x9] _ _
            by_cases he : parted bs t = bs
            · rw [if_pos he] at hI
              refine sd_skip (CD.td (cd_neE (x := parted bs t) (y := bs) hr ec_blocksL (ev 8) (ev 2))) (sd_nil ⟨_, _, _, _, _, _, rfl, hI⟩) ?_
              rw [decide_eq_true he]; rfl
            · rw [if_neg he] at hI
              refine sd_yes (CD.td (cd_neE (x := parted bs t) (y := bs) hr ec_blocksL (ev 8) (ev 2))) ?_ (by rw [decide_eq_false he]; rfl)
              refine sd_set (i := 9) (d := optGs (chosen l (gs.drop (start + (k + 1))) (parted bs t))) (ed_fn (lim + 2) D3 hr hG (ad_cons (ev 0) (ad_cons (d := natD (start + (k + 1))) (ED.to (ed_add (ev 5) ed_int) ?_) (ad_cons (ev 8) (ad_cons (d := natD l) (ED.to (ed_sub (ev 3) ed_int) ?_) ad_nil)))) ⟨L, gs, start + (k + 1), parted bs t, l, hz, by omega, hL, hb.parted, by omega, by omega, rfl, rfl⟩ (by omega)) ?_
              · unfold natD; congr 1
              · unfold natD; congr 1; omega
              · cases hch : chosen l (gs.drop (start + (k + 1))) (parted bs t) with
                | none =>
                  rw [hch] at hI
                  show SD _ [.val (gtL gs), .val (natD start), .val (blocksL bs), .val (natD (l + 1)), x4, .val (.int ((start : Int) + (k : Int))), .val (intsT g), .val (boolsT t), .val (blocksL (parted bs t)), .val .none] _ _
                  exact sd_skip (CD.td (cd_notN (ev 9))) (sd_nil (sd_nil ⟨_, _, _, _, _, _, rfl, hI⟩))
                | some r =>
                  rw [hch] at hI
                  have hrl := chosen_len _ _ _ _ hch
                  dsimp only at hI
                  show SD _ [.val (gtL gs), .val (natD start), .val (blocksL bs), .val (natD (l + 1)), x4, .val (.int ((start : Int) + (k : Int))), .val (intsT g), .val (boolsT t), .val (blocksL (parted bs t)), .val (setsL r)] _ _
                  refine sd_yes (CD.td (cd_notN (ev 9))) (sd_ret (ed_catL (ed_lst (ad_cons (ev 6) ad_nil) (by show 1 ≤ 100000; decide)) (ev 9) ?_) ?_)
                  · rw [List.length_map]; show 1 + _ ≤ _; omega
                  · rw [← hI]; rfl
          · rintro _ ⟨x4, x5, x6, x7, x8, x9, rfl, hI⟩
            rw [rangeD_len] at hI
            have e : gs.drop (start + ((gs.length : Int) - (start : Int)).toNat) = [] := List.drop_eq_nil_of_le (by omega)
            rw [e] at hI
            exact sd_ret ed_non (by rw [← hI]; rfl)
theorem w_chosen (T : Txt mg) (M : Fn K mg "chosen" s_chosen ["glasses", "start", "blocks", "left"]) (D1 : Def P w K mg base 1 "parted" 2 R_parted) : ∀ lim, Def P w K mg base (lim + 2) "chosen" 4 (R_chosen lim)
  | 0 => w_chosen_step T M D1 0 fun l h => by cases h
  | l + 1 => w_chosen_step T M D1 (l + 1) fun l' h => by cases h; exact w_chosen T M D1 l
end
end C9
set_option Elab.async false
set_option linter.all false
set_option maxRecDepth 100000
set_option maxHeartbeats 1000000
namespace C9
open PySem PySem.Spec PyProof.Rows L2
theorem findUp_spec {α : Type} {f : Nat → Option α} : ∀ {k i j : Nat} {x : α}, findUp f k i = some (j, x) → i ≤ j ∧ j < i + k ∧ f j = some x ∧ ∀ t, i ≤ t → t < j → f t = none
  | 0, i, j, x, h => by cases h
  | k + 1, i, j, x, h => by
    unfold findUp at h
    cases hf : f i with
    | some y =>
      rw [hf] at h
      cases h
      exact ⟨Nat.le_refl _, by omega, hf, fun t h1 h2 => absurd h2 (by omega)⟩
    | none =>
      rw [hf] at h
      obtain ⟨h1, h2, h3, h4⟩ := findUp_spec h
      refine ⟨by omega, by omega, h3, fun t q1 q2 => ?_⟩
      by_cases e : t = i
      · rw [e]; exact hf
      · exact h4 t (by omega) q2
theorem unlike_told (sets : List (List Nat)) (c : Option Nat) : ∀ (l : List (List Nat)) (acc : List (List Bool × List Nat)), (∀ q ∈ acc, q.1.length = sets.length) → ∀ q ∈ l.foldl (unlikeStep sets c) acc, q.1.length = sets.length
  | [], acc, h => h
  | g :: l, acc, h => by
    refine unlike_told sets c l _ ?_
    unfold unlikeStep
    dsimp only
    split
    · exact h
    · intro q hq
      rcases List.mem_append.mp hq with z | z
      · exact h q z
      · rw [List.mem_singleton.mp z, List.length_map]
theorem glassesOf_told {n : Nat} {sets : List (List Nat)} {c : Option Nat} : ∀ q ∈ glassesOf n sets c, q.2.length = sets.length := by
  intro q hq
  unfold glassesOf at hq
  obtain ⟨kv, h, rfl⟩ := List.mem_map.mp hq
  exact unlike_told sets c _ [] (fun _ h => by cases h) kv h
theorem glassesOf_len {n : Nat} (hn : n ≤ 5) {sets : List (List Nat)} {c : Option Nat} : (glassesOf n sets c).length ≤ 32 := by
  unfold glassesOf unlike
  rw [List.length_map]
  refine Nat.le_trans (unlike_len sets c _ []) ?_
  rw [List.length_drop, List.length_nil]
  have := (bnd_sets n hn n hn).2
  omega
theorem blocks0_ok {L : Nat} (h : L ≤ 32) : BOk L (blocks0 L) := by
  unfold blocks0
  split
  · refine ⟨fun b hb => ?_, ?_⟩
    · rw [List.mem_singleton.mp hb, List.length_range]
      exact ⟨by omega, fun i hi => List.mem_range.mp hi⟩
    · simp; omega
  · exact ⟨fun b hb => (by cases hb), Nat.zero_le _⟩
def mu9 (i : Nat) (δ : List Sl) : Nat := match δ[i]? with
  | some (.val (.int k)) => 10 - k.toNat
  | _ => 0
def none9 (i : Nat) (δ : List Sl) : Bool := match δ[i]? with
  | some (.val d) => isNone d
  | _ => true
section
variable {P : Program} {w : World} {K : PySem.W.Frag} {mg : Str → Option Value} {base : Heap}
def R_best (ds : List PyData) (d : PyData) : Prop := ∃ n m x c many gs, 1 ≤ n ∧ n ≤ 5 ∧ m ≤ n ∧ FD x c ∧ best n m c = some (many, gs) ∧ ds = [natD n, natD m, x] ∧ d = setsL gs
theorem w_best_glasses (T : Txt mg) (M : Fn K mg "best_glasses" s_best_glasses ["number", "most", "faint"]) (D1 : Def P w K mg base 1 "every_set" 2 R_every_set) (D2 : Def P w K mg base 2 "unlike_glasses" 3 R_unlike) (D3 : Def P w K mg base 7 "chosen" 4 (R_chosen 5)) : Def P w K mg base 8 "best_glasses" 3 R_best := by
  refine def_fn 7 M sc_best_glasses (fun ds d ⟨_, _, _, _, _, _, _, _, _, _, _, e, _⟩ => by rw [e]; rfl) ?_
  rintro f cdv A outer s H E _ _ ⟨n, m, x, c, many, gs, h1, h2, h3, hx, hb, rfl, rfl⟩ hG hr nd
  show SD _ [.val (natD n), .val (natD m), .val x, .no, .no, .no, .no, .no] _ _
  have hlen := (bnd_sets n h2 m (by omega)).2
  unfold best at hb
  dsimp only at hb
  obtain ⟨_, hmany, hf, hno⟩ := findUp_spec hb
  refine sd_set (i := 3) (d := setsL (everySet n m)) (ed_fn 7 D1 hr hG (ad_cons (ev 0) (ad_cons (ev 1) ad_nil)) ⟨n, m, h2, by omega, rfl, rfl⟩) ?_
  refine sd_set (i := 4) (d := gtL (glassesOf n (everySet n m) c)) (ed_fn 7 D2 hr hG (ad_cons (ev 0) (ad_cons (ev 3) (ad_cons (ev 2) ad_nil))) ⟨n, everySet n m, x, c, h2, by omega, hx, rfl, rfl⟩) ?_
  refine sd_set (i := 5) (d := blocksL (blocks0 (everySet n m).length)) (ed_if (CD.td (cd_gt (ed_len (.inl rfl) (ev 3) T.len) ed_int)) (fun h => ?_) (fun h => ?_)) ?_
  · have h' : 1 < (everySet n m).length := by
      have := of_decide_eq_true h
      rw [List.length_map] at this
      omega
    refine ED.to (ed_lst (ad_cons (LD.ed (ld_listRange (n := ((everySet n m).length : Int)) (by omega) (by omega) (ED.to (ed_len (.inl rfl) (ev 3) T.len) (by rw [List.length_map])) T.list T.range)) ad_nil) (by show 1 ≤ 100000; decide)) ?_
    unfold blocks0
    rw [if_pos h', Int.toNat_natCast]; rfl
  · have h' : ¬ 1 < (everySet n m).length := by
      have := of_decide_eq_false h
      rw [List.length_map] at this
      omega
    refine ED.to (ed_lst ad_nil (by decide)) ?_
    unfold blocks0
    rw [if_neg h']; rfl
  refine sd_set (i := 6) (d := .none) ed_non ?_
  refine sd_set (i := 7) (d := natD 0) ed_int ?_
  refine sd_while (fun δ => (∃ k, k ≤ many ∧ δ = [.val (natD n), .val (natD m), .val x, .val (setsL (everySet n m)), .val (gtL (glassesOf n (everySet n m) c)), .val (blocksL (blocks0 (everySet n m).length)), .val .none, .val (natD k)]) ∨
      δ = [.val (natD n), .val (natD m), .val x, .val (setsL (everySet n m)), .val (gtL (glassesOf n (everySet n m) c)), .val (blocksL (blocks0 (everySet n m).length)), .val (setsL gs), .val (natD (many + 1))]) (mu9 7) (none9 6) (.inl ⟨0, Nat.zero_le _, rfl⟩) ?_ ?_ ?_
  · rintro _ (⟨k, hk, rfl⟩ | rfl)
    · exact TD.to (CD.td (cd_isN (ev 6))) rfl
    · exact TD.to (CD.td (cd_isN (ev 6))) rfl
  · rintro _ (⟨k, hk, rfl⟩ | rfl) ht
    · refine sd_set (i := 6) (d := optGs (chosen k (glassesOf n (everySet n m) c) (blocks0 (everySet n m).length))) (ed_fn 7 D3 hr hG (ad_cons (ev 4) (ad_cons ed_int (ad_cons (ev 5) (ad_cons (ev 7) ad_nil)))) ⟨(everySet n m).length, _, 0, _, k, Nat.le_trans (glassesOf_len h2) (by decide), Nat.zero_le _, glassesOf_told, blocks0_ok hlen, by omega, by decide, rfl, rfl⟩) ?_
      refine sd_set (i := 7) (d := natD (k + 1)) (ED.to (ed_add (ev 7) ed_int) ?_) (sd_nil ?_)
      · unfold natD; congr 1
      · by_cases e : k = many
        · subst e
          rw [hf]
          refine ⟨.inr rfl, ?_⟩
          show 10 - (((k + 1 : Nat) : Int)).toNat < 10 - ((k : Int)).toNat
          omega
        · rw [hno k (Nat.zero_le _) (by omega)]
          refine ⟨.inl ⟨k + 1, by omega, rfl⟩, ?_⟩
          show 10 - (((k + 1 : Nat) : Int)).toNat < 10 - ((k : Int)).toNat
          omega
    · cases ht
  · rintro _ (⟨k, hk, rfl⟩ | rfl) ht
    · cases ht
    · exact sd_ret (ev 6) rfl
def R_some (ds : List PyData) (d : PyData) : Prop := ∃ n m x c many gs, 1 ≤ n ∧ n ≤ 5 ∧ m ≤ n ∧ FD x c ∧ best n m c = some (many, gs) ∧ ds = [natD n, natD m, x] ∧ d = glassesT gs
theorem w_some_glasses (T : Txt mg) (M : Fn K mg "some_glasses" s_some_glasses ["number", "most", "faint"]) (D1 : Def P w K mg base 3 "need_numbers" 2 R_need_numbers) (D2 : Def P w K mg base 2 "need_faint" 1 R_need_faint) (D3 : Def P w K mg base 8 "best_glasses" 3 R_best) : Def P w K mg base 9 "some_glasses" 3 R_some := by
  refine def_fn 8 M sc_some_glasses (fun ds d ⟨_, _, _, _, _, _, _, _, _, _, _, e, _⟩ => by rw [e]; rfl) ?_
  rintro f cdv A outer s H E _ _ ⟨n, m, x, c, many, gs, h1, h2, h3, hx, hb, rfl, rfl⟩ hG hr nd
  show SD _ [.val (natD n), .val (natD m), .val x] _ _
  refine sd_expr (ed_fn 8 D1 hr hG (ad_cons (ev 0) (ad_cons (ev 1) ad_nil)) ⟨n, m, h1, h2, h3, rfl, rfl⟩) ?_
  refine sd_expr (ed_fn 8 D2 hr hG (ad_cons (ev 2) ad_nil) ⟨x, c, hx, rfl, rfl⟩) ?_
  exact sd_ret (ed_tuple (ed_fn 8 D3 hr hG (ad_cons (ev 0) (ad_cons (ev 1) (ad_cons (ev 2) ad_nil))) ⟨n, m, x, c, many, gs, h1, h2, h3, hx, hb, rfl, rfl⟩) T.tuple) rfl
def R_fewest (ds : List PyData) (d : PyData) : Prop := ∃ n m x c many gs, 1 ≤ n ∧ n ≤ 5 ∧ m ≤ n ∧ FD x c ∧ best n m c = some (many, gs) ∧ ds = [natD n, natD m, x] ∧ d = natD gs.length
theorem w_fewest_glasses (T : Txt mg) (M : Fn K mg "fewest_glasses" s_fewest_glasses ["number", "most", "faint"]) (D1 : Def P w K mg base 9 "some_glasses" 3 R_some) : Def P w K mg base 10 "fewest_glasses" 3 R_fewest := by
  refine def_fn 9 M sc_fewest_glasses (fun ds d ⟨_, _, _, _, _, _, _, _, _, _, _, e, _⟩ => by rw [e]; rfl) ?_
  rintro f cdv A outer s H E _ _ ⟨n, m, x, c, many, gs, h1, h2, h3, hx, hb, rfl, rfl⟩ hG hr nd
  show SD _ [.val (natD n), .val (natD m), .val x] _ _
  refine sd_ret (ed_len (.inr rfl) (ed_fn 9 D1 hr hG (ad_cons (ev 0) (ad_cons (ev 1) (ad_cons (ev 2) ad_nil))) ⟨n, m, x, c, many, gs, h1, h2, h3, hx, hb, rfl, rfl⟩) T.len) ?_
  unfold natD
  rw [List.length_map]
end
end C9
set_option Elab.async false
set_option linter.all false
set_option maxRecDepth 100000
set_option maxHeartbeats 1000000
namespace C9
open PySem PySem.Spec PyProof.Rows L2
def entD (e : Nat × List Nat) : PyData := .tuple [natD e.1, intsT e.2]
def entL (l : List (Nat × List Nat)) : PyData := .list (l.map entD)
theorem ec_ent : Ec 2 entD := ⟨fun x y => by
    show (PyData.eqv (natD x.1) (natD y.1) && (PyData.eqv (intsT x.2) (intsT y.2) && true)) = _
    rw [ec_nat.eq, ec_intsT.eq, Bool.and_true]
    obtain ⟨a, b⟩ := x
    obtain ⟨a', b'⟩ := y
    by_cases h1 : a = a' <;> by_cases h2 : b = b' <;> simp [h1, h2], fun x => by
    show ((natD x.1).canLay0 && ((intsT x.2).canLay0 && true)) = true
    rw [ec_nat.lay, ec_intsT.lay]; rfl, fun x => by
    show max (natD x.1).depth (max (intsT x.2).depth 0) + 1 ≤ 2
    have h1 := ec_nat.dep x.1
    have h2 := ec_intsT.dep x.2
    have := Nat.max_le.mpr ⟨Nat.le_trans h1 (by decide : 0 ≤ 1), Nat.max_le.mpr ⟨h2, Nat.zero_le 1⟩⟩
    omega⟩
theorem ec_entL : Ec 3 entL := ec_list ec_ent
def treeD : Tree → PyData
  | .are s => .tuple [.str "are", intsT s]
  | .node g a b => .tuple [.str "glass", intsT g, treeD a, treeD b]
def optTree : Option Tree → PyData
  | none => .none
  | some t => treeD t
theorem treeD_some (t : Tree) : isNone (treeD t) = false := by cases t <;> rfl
theorem within_one {gs : List (List Nat × List Bool)} {l : Nat} {e : Nat × List Nat} : within gs l [e] = some (.are e.2) := by
  cases l <;> simp [within]
theorem within_big {gs : List (List Nat × List Bool)} {l : Nat} {blk : List (Nat × List Nat)} (h1 : blk.length ≠ 1) (h : 2 ^ l < blk.length) : within gs l blk = none := by
  cases l <;> simp [within, h1] <;> omega
theorem within_succ {gs : List (List Nat × List Bool)} {l : Nat} {blk : List (Nat × List Nat)} (h1 : blk.length ≠ 1) (h : ¬ 2 ^ (l + 1) < blk.length) : within gs (l + 1) blk = searchT (within gs l) blk gs := by
  simp [within, h1]; omega
theorem pow_lt_dec (l m : Nat) : decide (((1 : Int) * 2 ^ ((l : Int)).toNat) < (m : Int)) = decide (2 ^ l < m) := by
  have e2 : (1 : Int) * 2 ^ ((l : Int)).toNat = ((2 ^ l : Nat) : Int) := by
    rw [Int.one_mul, Int.toNat_natCast, Int.natCast_pow]; rfl
  rw [e2, decide_eq_decide]
  exact Int.ofNat_lt
section
variable {P : Program} {w : World} {K : PySem.W.Frag} {mg : Str → Option Value} {base : Heap}
def R_tree (lim : Nat) (ds : List PyData) (d : PyData) : Prop := ∃ L gs blk left, gs.length ≤ 1000 ∧ (∀ q ∈ gs, q.2.length = L) ∧ blk ≠ [] ∧ blk.length ≤ 1000 ∧ (∀ e ∈ blk, e.1 < L) ∧ left ≤ lim ∧ lim ≤ 10 ∧ ds = [gtL gs, entL blk, natD left] ∧ d = optTree (within gs left blk)
theorem w_tree_step (T : Txt mg) (M : Fn K mg "tree_within" s_tree_within ["glasses", "block", "left"]) (lim : Nat) (D2 : ∀ l, lim = l + 1 → Def P w K mg base (l + 1) "tree_within" 3 (R_tree l)) : Def P w K mg base (lim + 1) "tree_within" 3 (R_tree lim) := by
  refine def_fn lim M sc_tree_within (fun ds d ⟨_, _, _, _, _, _, _, _, _, _, _, e, _⟩ => by rw [e]; rfl) ?_
  rintro f cdv A outer s H E _ _ ⟨L, gs, blk, left, hz, hL, hne, hbz, hbl, hle, hlim, rfl, rfl⟩ hG hr nd
  show SD _ [.val (gtL gs), .val (entL blk), .val (natD left), .no, .no, .no, .no, .no, .no, .no] _ _
  by_cases h1 : blk.length = 1
  · obtain ⟨e, rfl⟩ := List.length_eq_one_iff.mp h1
    refine sd_yes (p := true) (TD.to (CD.td (cd_eqI (ed_len (.inl rfl) (ev 1) T.len) ed_int)) rfl) ?_
    exact sd_ret (ed_tup (ad_cons ed_str (ad_cons (ed_ixN (i := 1) (j := 1) (ds := [natD e.1, intsT e.2]) (.inr rfl) rfl rfl (ed_ixN (i := 0) (j := 0) (ds := [entD e]) (.inl rfl) rfl rfl (ev 1) ed_int) ed_int) ad_nil)) (by show 2 ≤ 100000; decide)) (by rw [within_one]; rfl)
  refine sd_skip (p := false) (TD.to (CD.td (cd_eqI (ed_len (.inl rfl) (ev 1) T.len) ed_int)) (by rw [List.length_map]; exact decide_eq_false (by omega))) ?_
  by_cases hb : 2 ^ left < blk.length
  · refine sd_yes (p := true) (TD.to (CD.td (cd_gt (ed_len (.inl rfl) (ev 1) T.len) (ed_shl (i := 1) (j := (left : Int)) (by unfold CPow; exact ⟨by omega, by omega, by decide⟩) ed_int (ev 2)))) (by rw [List.length_map, pow_lt_dec]; exact decide_eq_true hb)) ?_
    exact sd_ret ed_non (by rw [within_big h1 hb]; rfl)
  refine sd_skip (p := false) (TD.to (CD.td (cd_gt (ed_len (.inl rfl) (ev 1) T.len) (ed_shl (i := 1) (j := (left : Int)) (by unfold CPow; exact ⟨by omega, by omega, by decide⟩) ed_int (ev 2)))) (by rw [List.length_map, pow_lt_dec]; exact decide_eq_false hb)) ?_
  cases left with
  | zero =>
    have := List.length_pos_iff.mpr hne
    exact absurd (show 2 ^ 0 < blk.length from by show 1 < _; omega) hb
  | succ l =>
    rw [within_succ h1 hb]
    cases lim with
    | zero => exact absurd hle (Nat.not_succ_le_zero l)
    | succ lim =>
      have D3 := D2 lim rfl
      generalize hR : searchT (within gs l) blk gs = R0
      refine sd_for2 (j := 3) (l := 4) (xs := gs) (f1 := fun q => intsT q.1) (f2 := fun q => boolsT q.2) (id_list (ev 0)) (fun k δ => ∃ x3 x4 x5 x6 x7 x8 x9, δ = [.val (gtL gs), .val (entL blk), .val (natD (l + 1)), x3, x4, x5, x6, x7, x8, x9] ∧ searchT (within gs l) blk (gs.drop k) = R0) ⟨_, _, _, _, _, _, _, rfl, hR⟩ ?_ ?_
      · rintro k q _ hk ⟨x3, x4, x5, x6, x7, x8, x9, rfl, hI⟩
        obtain ⟨hk2, rfl⟩ := List.getElem?_eq_some_iff.mp hk
        have ed : gs.drop k = gs[k] :: gs.drop (k + 1) := List.drop_eq_getElem_cons hk2
        rw [ed] at hI
        have hm : gs[k] ∈ gs := List.getElem_mem hk2
        generalize gs[k] = q at hI hm
        obtain ⟨g, t⟩ := q
        have hte : t.length = L := hL _ hm
        have hat : ∀ e ∈ blk, e.1 < t.length := fun e he => by rw [hte]; exact hbl e he
        unfold searchT at hI
        dsimp only at hI
        show SD _ [.val (gtL gs), .val (entL blk), .val (natD (l + 1)), .val (intsT g), .val (boolsT t), x5, x6, x7, x8, x9] _ _
        refine sd_setLcF 5 6 n_tree_within (defScope s_tree_within) [("entry", 6)] blk entD (fun e => at2 t e.1) entD (id_list (ev 1)) (by omega) (fun e he s H C cl fp => ?_) (fun e he hp s H C cl fp => ev 6) ?_
        · exact td_v (ed_ixN (.inr rfl) rfl (get_bools (hat e he)) (ev 4) (ed_ixN (i := 0) (j := 0) (ds := [natD e.1, intsT e.2]) (.inr rfl) rfl rfl (ev 6) ed_int))
        refine sd_setLcF 7 6 n_tree_within (defScope s_tree_within) [("entry", 6)] blk entD (fun e => !at2 t e.1) entD (id_list (ev 1)) (by omega) (fun e he s H C cl fp => ?_) (fun e he hp s H C cl fp => ev 6) ?_
        · exact td_not (td_v (ed_ixN (.inr rfl) rfl (get_bools (hat e he)) (ev 4) (ed_ixN (i := 0) (j := 0) (ds := [natD e.1, intsT e.2]) (.inr rfl) rfl rfl (ev 6) ed_int)))
        have hbad : ∀ e ∈ blk.filter (fun e => at2 t e.1), e.1 < L := fun e he => hbl e (List.mem_filter.mp he).1
        have hgood : ∀ e ∈ blk.filter (fun e => !at2 t e.1), e.1 < L := fun e he => hbl e (List.mem_filter.mp he).1
        have lbad : (blk.filter (fun e => at2 t e.1)).length ≤ 1000 := Nat.le_trans (List.length_filter_le _ _) hbz
        have lgood : (blk.filter (fun e => !at2 t e.1)).length ≤ 1000 := Nat.le_trans (List.length_filter_le _ _) hbz
        generalize blk.filter (fun e => at2 t e.1) = bad at hI hbad lbad ⊢
        generalize blk.filter (fun e => !at2 t e.1) = good at hI hgood lgood ⊢
        show SD _ [.val (gtL gs), .val (entL blk), .val (natD (l + 1)), .val (intsT g), .val (boolsT t), .val (entL bad), x6, .val (entL good), x8, x9] _ _
        by_cases he : bad = [] ∨ good = []
        · rw [if_pos he] at hI
          refine sd_skip (td_and2 (CD.td (cd_neE (x := bad) (y := []) hr ec_entL (ev 5) (ed_lst ad_nil (by decide)))) fun _ => CD.td (cd_neE (x := good) (y := []) hr ec_entL (ev 7) (ed_lst ad_nil (by decide)))) (sd_nil ⟨_, _, _, _, _, _, _, rfl, hI⟩) ?_
          rcases he with z | z
          · rw [decide_eq_true z]; rfl
          · rw [decide_eq_true z, Bool.not_true, Bool.and_false]
        · rw [if_neg he] at hI
          have n1 : bad ≠ [] := fun z => he (.inl z)
          have n2 : good ≠ [] := fun z => he (.inr z)
          refine sd_yes (td_and2 (CD.td (cd_neE (x := bad) (y := []) hr ec_entL (ev 5) (ed_lst ad_nil (by decide)))) fun _ => CD.td (cd_neE (x := good) (y := []) hr ec_entL (ev 7) (ed_lst ad_nil (by decide)))) ?_ (by rw [decide_eq_false n1, decide_eq_false n2]; rfl)
          refine sd_set (i := 8) (d := optTree (within gs l bad)) (ed_fn (lim + 1) D3 hr hG (ad_cons (ev 0) (ad_cons (ev 5) (ad_cons (d := natD l) (ED.to (ed_sub (ev 2) ed_int) (by unfold natD; congr 1; omega)) ad_nil))) ⟨L, gs, bad, l, hz, hL, n1, lbad, hbad, by omega, by omega, rfl, rfl⟩ (by omega)) ?_
          cases hf : within gs l bad with
          | none =>
            rw [hf] at hI
            dsimp only at hI
            show SD _ [.val (gtL gs), .val (entL blk), .val (natD (l + 1)), .val (intsT g), .val (boolsT t), .val (entL bad), x6, .val (entL good), .val .none, x9] _ _
            exact sd_skip (CD.td (cd_notN (ev 8))) (sd_nil (sd_nil ⟨_, _, _, _, _, _, _, rfl, hI⟩))
          | some t1 =>
            rw [hf] at hI
            dsimp only at hI
            show SD _ [.val (gtL gs), .val (entL blk), .val (natD (l + 1)), .val (intsT g), .val (boolsT t), .val (entL bad), x6, .val (entL good), .val (treeD t1), x9] _ _
            refine sd_yes (p := true) (TD.to (CD.td (cd_notN (ev 8))) (by rw [treeD_some]; rfl)) ?_
            refine sd_set (i := 9) (d := optTree (within gs l good)) (ed_fn (lim + 1) D3 hr hG (ad_cons (ev 0) (ad_cons (ev 7) (ad_cons (d := natD l) (ED.to (ed_sub (ev 2) ed_int) (by unfold natD; congr 1; omega)) ad_nil))) ⟨L, gs, good, l, hz, hL, n2, lgood, hgood, by omega, by omega, rfl, rfl⟩ (by omega)) ?_
            cases hf2 : within gs l good with
            | none =>
              rw [hf2] at hI
              dsimp only at hI
              show SD _ [.val (gtL gs), .val (entL blk), .val (natD (l + 1)), .val (intsT g), .val (boolsT t), .val (entL bad), x6, .val (entL good), .val (treeD t1), .val .none] _ _
              exact sd_skip (CD.td (cd_notN (ev 9))) (sd_nil (sd_nil (sd_nil ⟨_, _, _, _, _, _, _, rfl, hI⟩)))
            | some t2 =>
              rw [hf2] at hI
              dsimp only at hI
              show SD _ [.val (gtL gs), .val (entL blk), .val (natD (l + 1)), .val (intsT g), .val (boolsT t), .val (entL bad), x6, .val (entL good), .val (treeD t1), .val (treeD t2)] _ _
              refine sd_yes (p := true) (TD.to (CD.td (cd_notN (ev 9))) (by rw [treeD_some]; rfl)) ?_
              exact sd_ret (ed_tup (ad_cons ed_str (ad_cons (ev 3) (ad_cons (ev 8) (ad_cons (ev 9) ad_nil)))) (by show 4 ≤ 100000; decide)) (by rw [← hI]; rfl)
      · rintro _ ⟨x3, x4, x5, x6, x7, x8, x9, rfl, hI⟩
        rw [List.drop_length] at hI
        exact sd_ret ed_non (by rw [← hI]; rfl)
theorem w_tree_within (T : Txt mg) (M : Fn K mg "tree_within" s_tree_within ["glasses", "block", "left"]) : ∀ lim, Def P w K mg base (lim + 1) "tree_within" 3 (R_tree lim)
  | 0 => w_tree_step T M 0 fun l h => by cases h
  | l + 1 => w_tree_step T M (l + 1) fun l' h => by cases h; exact w_tree_within T M l
end
end C9
set_option Elab.async false
set_option linter.all false
set_option maxRecDepth 100000
set_option maxHeartbeats 1000000
namespace C9
open PySem PySem.Spec PyProof.Rows L2
def colsL (l : List (List Bool)) : PyData := .list (l.map boolsL)
theorem lawPart_parted (bs : List (List Nat)) (t : List Bool) : lawPart bs t = parted bs t := by
  unfold lawPart parted
  rw [List.filter_flatMap]
theorem lawCan_nil (l : Nat) (cols : List (List Bool)) : lawCan l cols [] = true := by cases l <;> simp [lawCan]
theorem lawCan_big {l : Nat} {cols : List (List Bool)} {bs : List (List Nat)} (hb : bs ≠ []) (h : tooBig bs l = true) : lawCan l cols bs = false := by
  cases l <;> simp [lawCan, hb, h]
theorem lawCan_succ {l : Nat} {cols : List (List Bool)} {bs : List (List Nat)} (hb : bs ≠ []) (h : tooBig bs (l + 1) = false) : lawCan (l + 1) cols bs = canIn (lawCan l) bs cols := by
  simp [lawCan, hb, h]
theorem turn_small {cols : List (List Bool)} {l : Nat} {b : List Nat} (h : b.length < 2) : canInTurn cols l b = true := by cases l <;> simp [canInTurn, h]
theorem turn_big {cols : List (List Bool)} {l : Nat} {b : List Nat} (h : ¬ b.length < 2) (h2 : 2 ^ l < b.length) : canInTurn cols l b = false := by
  cases l <;> simp [canInTurn, h, h2] <;> omega
theorem turn_succ {cols : List (List Bool)} {l : Nat} {b : List Nat} (h : ¬ b.length < 2) (h2 : ¬ 2 ^ (l + 1) < b.length) : canInTurn cols (l + 1) b = turnIn (canInTurn cols l) b cols := by
  simp only [canInTurn, if_neg h, if_neg h2]
theorem get_boolsL {t : List Bool} {i : Nat} (h : i < t.length) : (t.map PyData.bool)[i]? = some (.bool (at2 t i)) := get_bools h
/-- the parts of a block -/
def side (t : List Bool) (b : List Nat) (v : Bool) : List Nat := b.filter fun i => decide (at2 t i = v)
theorem sides (t : List Bool) (b : List Nat) : [true, false].map (side t b) = halves t b := by
  unfold halves side
  show [b.filter (fun i => decide (at2 t i = true)), b.filter (fun i => decide (at2 t i = false))] = [_, _]
  have e1 : (fun i => decide (at2 t i = true)) = at2 t := by funext i; cases at2 t i <;> rfl
  have e2 : (fun i => decide (at2 t i = false)) = fun i => !at2 t i := by funext i; cases at2 t i <;> rfl
  rw [e1, e2]
section
variable {P : Program} {w : World} {K : PySem.W.Frag} {mg : Str → Option Value} {base : Heap}
def R__law_part (ds : List PyData) (d : PyData) : Prop := ∃ bs t, bs.length ≤ 1000 ∧ (∀ b ∈ bs, b.length ≤ 1000 ∧ ∀ i ∈ b, i < t.length) ∧ ds = [blocksL bs, boolsL t] ∧ d = blocksL (lawPart bs t)
theorem w__law_part (T : Txt mg) (M : Fn K mg "_law_part" s__law_part ["_law_blocks", "_law_row"]) : Def P w K mg base 1 "_law_part" 2 R__law_part := by
  refine def_fn 0 M sc__law_part (fun ds d ⟨_, _, _, _, e, _⟩ => by rw [e]; rfl) ?_
  rintro f cdv A outer s H E _ _ ⟨bs, t, hz, hb, rfl, rfl⟩ hG hr nd
  show SD _ [.val (blocksL bs), .val (boolsL t), .no, .no, .no, .no, .no] _ _
  have blen : ∀ k, (lawPart (bs.take k) t).length ≤ 2 * k := fun k => by
    unfold lawPart
    rw [List.length_flatMap]
    have : ∀ l : List (List Nat), (l.map fun b => ((halves t b).filter fun b => decide (1 < b.length)).length).sum ≤ 2 * l.length := fun l => by
      induction l with
      | nil => exact Nat.le_refl _
      | cons b l ih =>
        rw [List.map_cons, List.sum_cons, List.length_cons]
        have h2 : ((halves t b).filter fun b => decide (1 < b.length)).length ≤ 2 := List.length_filter_le _ (halves t b)
        omega
    have := this (bs.take k)
    rw [List.length_take] at this
    omega
  refine sd_own (i := 2) (ds := []) (ld_lst ad_nil (by decide)) ?_
  refine sd_for (j := 3) (id_list (ev 0)) (fun k δ => ∃ x3 x4 x5 x6, δ = [.val (blocksL bs), .val (boolsL t), .own ((lawPart (bs.take k) t).map intsL), x3, x4, x5, x6]) ⟨_, _, _, _, rfl⟩ ?_ ?_
  · rintro k d _ hk ⟨x3, x4, x5, x6, rfl⟩
    rw [List.getElem?_map] at hk
    cases hq : bs[k]? with
    | none => rw [hq] at hk; cases hk
    | some b =>
      rw [hq] at hk
      cases hk
      have hkl : k < bs.length := (List.getElem?_eq_some_iff.mp hq).1
      have hm := hb b (List.mem_of_getElem? hq)
      have hbl := blen k
      have ek : lawPart (bs.take (k + 1)) t = lawPart (bs.take k) t ++ ([true, false].map (side t b)).filter fun b => decide (1 < b.length) := by
        rw [sides]
        unfold lawPart
        rw [List.take_succ, hq, List.flatMap_append]
        congr 1
        show List.flatMap _ [b] = _
        rw [List.flatMap_cons, List.flatMap_nil, List.append_nil]
      rw [ek]
      generalize lawPart (bs.take k) t = acc at hbl ⊢
      show SD _ [.val (blocksL bs), .val (boolsL t), .own (acc.map intsL), .val (intsL b), x4, x5, x6] _ _
      refine sd_for (j := 4) (id_tup (ed_tup (ad_cons ed_bl (ad_cons ed_bl ad_nil)) (by show 2 ≤ 100000; decide))) (fun i δ => ∃ x4 x5 x6, δ = [.val (blocksL bs), .val (boolsL t), .own ((acc ++ (([true, false].map (side t b)).take i).filter fun b => decide (1 < b.length)).map intsL), .val (intsL b), x4, x5, x6]) ⟨x4, x5, x6, by rw [List.take_zero, List.filter_nil, List.append_nil]⟩ ?_ ?_
      · rintro i d _ hi ⟨y4, y5, y6, rfl⟩
        have hv : ∃ v, d = .bool v ∧ [true, false][i]? = some v := by
          match i, hi with
          | 0, hi => cases hi; exact ⟨true, rfl, rfl⟩
          | 1, hi => cases hi; exact ⟨false, rfl, rfl⟩
          | i + 2, hi => cases hi
        obtain ⟨v, rfl, hvi⟩ := hv
        have hi2 : i < 2 := (List.getElem?_eq_some_iff.mp hvi).1
        have et : ([true, false].map (side t b)).take (i + 1) = ([true, false].map (side t b)).take i ++ [side t b v] := by
          rw [List.take_succ, List.getElem?_map, hvi]; rfl
        rw [et, List.filter_append]
        have hl2 : ((([true, false].map (side t b)).take i).filter fun b => decide (1 < b.length)).length ≤ 2 := Nat.le_trans (List.length_filter_le _ _) (by rw [List.length_take]; exact Nat.min_le_right _ _)
        generalize (([true, false].map (side t b)).take i).filter (fun b => decide (1 < b.length)) = ac2 at hl2 ⊢
        show SD _ [.val (blocksL bs), .val (boolsL t), .own ((acc ++ ac2).map intsL), .val (intsL b), .val (.bool v), y5, y6] _ _
        refine sd_setLcF 5 6 n__law_part (defScope s__law_part) [("_law_at", 6)] b natD (fun i => decide (at2 t i = v)) natD (id_list (ev 3)) (by omega) (fun i hi s H C cl fp => ?_) (fun i hi hp s H C cl fp => ev 6) ?_
        · exact CD.td (cd_eqB (ed_ixN (.inl rfl) rfl (get_bools (hm.2 i hi)) (ev 1) (ev 6)) (ev 4))
        show SD _ [.val (blocksL bs), .val (boolsL t), .own ((acc ++ ac2).map intsL), .val (intsL b), .val (.bool v), .val (intsL (side t b v)), y6] _ _
        by_cases h1 : 1 < (side t b v).length
        · refine sd_yes (p := true) (TD.to (CD.td (cd_gt (ed_len (.inl rfl) (ev 5) T.len) ed_int)) (by rw [List.length_map]; exact decide_eq_true (by omega))) ?_
          refine sd_append (i := 2) (d := intsL (side t b v)) rfl (by rw [List.length_map, List.length_append]; omega) (ev 5) (sd_nil (sd_nil ⟨.val (.bool v), .val (intsL (side t b v)), y6, ?_⟩))
          have ef : [side t b v].filter (fun b => decide (1 < b.length)) = [side t b v] := by simp [h1]
          rw [ef]
          show [_, _, Sl.own ((acc ++ ac2).map intsL ++ [intsL (side t b v)]), _, _, _, _] = _
          rw [← List.append_assoc, List.map_append (l₁ := acc ++ ac2)]
          rfl
        · refine sd_skip (p := false) (TD.to (CD.td (cd_gt (ed_len (.inl rfl) (ev 5) T.len) ed_int)) (by rw [List.length_map]; exact decide_eq_false (by omega))) (sd_nil ⟨.val (.bool v), .val (intsL (side t b v)), y6, ?_⟩)
          have ef : [side t b v].filter (fun b => decide (1 < b.length)) = [] := by simp [h1]
          rw [ef, List.append_nil]
      · rintro _ ⟨y4, y5, y6, rfl⟩
        exact sd_nil ⟨_, _, _, _, rfl⟩
  · rintro _ ⟨x3, x4, x5, x6, rfl⟩
    rw [List.length_map, List.take_length]
    exact sd_freeze (i := 2) rfl (sd_ret (ev 2) rfl)
def R_can (lim : Nat) (ds : List PyData) (d : PyData) : Prop := ∃ L cols bs many, cols.length ≤ 1000 ∧ (∀ r ∈ cols, r.length = L) ∧ BOk L bs ∧ many ≤ lim ∧ lim ≤ 10 ∧ ds = [blocksL bs, colsL cols, natD many] ∧ d = .bool (lawCan many cols bs)
theorem w_can_step (T : Txt mg) (M : Fn K mg "_law_can" s__law_can ["_law_blocks", "_law_columns_here", "_law_many"]) (D1 : Def P w K mg base 1 "_law_part" 2 R__law_part) (lim : Nat) (D2 : ∀ l, lim = l + 1 → Def P w K mg base (l + 2) "_law_can" 3 (R_can l)) : Def P w K mg base (lim + 2) "_law_can" 3 (R_can lim) := by
  refine def_fn (lim + 1) M sc__law_can (fun ds d ⟨_, _, _, _, _, _, _, _, _, e, _⟩ => by rw [e]; rfl) ?_
  rintro f cdv A outer s H E _ _ ⟨L, cols, bs, left, hz, hL, hb, hle, hlim, rfl, rfl⟩ hG hr nd
  show SD _ [.val (blocksL bs), .val (colsL cols), .val (natD left), .no, .no] _ _
  have hbl := hb.len
  by_cases hn : bs = []
  · subst hn
    exact sd_yes (CD.td (cd_eqE (x := []) (y := []) hr ec_blocksL (ev 0) (ed_lst ad_nil (by decide)))) (sd_ret ed_bl (by rw [lawCan_nil]))
  refine sd_skip (CD.td (cd_eqE (x := bs) (y := []) hr ec_blocksL (ev 0) (ed_lst ad_nil (by decide)))) ?_ (decide_eq_false hn)
  cases hbig : tooBig bs left with
  | true =>
    refine sd_yes (p := true) (TD.to (CD.td (cd_gt (ed_max (ns := bs.map fun b => (b.length : Int)) (by rw [List.length_map]; exact List.length_pos_iff.mpr hn) (ED.to (LD.ed (ld_lc 3 n__law_can (defScope s__law_can) [("_law_block", 3)] bs intsL (fun b => .int (b.length : Int)) (id_list (ev 0)) (by omega) (fun b h s H C cl fp => ED.to (ed_len (.inl rfl) (ev 3) T.len) (by rw [List.length_map])))) (by rw [List.map_map]; rfl)) T.max) (ed_shl (i := 1) (j := (left : Int)) (by unfold CPow; exact ⟨by omega, by omega, by decide⟩) ed_int (ev 2)))) ?_) ?_
    · rw [tooBig_max bs hn left, hbig]
    · exact sd_ret ed_bl (by rw [lawCan_big hn hbig])
  | false =>
    refine sd_skip (p := false) (TD.to (CD.td (cd_gt (ed_max (ns := bs.map fun b => (b.length : Int)) (by rw [List.length_map]; exact List.length_pos_iff.mpr hn) (ED.to (LD.ed (ld_lc 3 n__law_can (defScope s__law_can) [("_law_block", 3)] bs intsL (fun b => .int (b.length : Int)) (id_list (ev 0)) (by omega) (fun b h s H C cl fp => ED.to (ed_len (.inl rfl) (ev 3) T.len) (by rw [List.length_map])))) (by rw [List.map_map]; rfl)) T.max) (ed_shl (i := 1) (j := (left : Int)) (by unfold CPow; exact ⟨by omega, by omega, by decide⟩) ed_int (ev 2)))) ?_) ?_
    · rw [tooBig_max bs hn left, hbig]
    · cases left with
      | zero => rw [not_big0 hb hn] at hbig; cases hbig
      | succ l =>
        rw [lawCan_succ hn hbig]
        cases lim with
        | zero => exact absurd hle (Nat.not_succ_le_zero l)
        | succ lim =>
          have D3 := D2 lim rfl
          generalize hR : canIn (lawCan l) bs cols = R0
          refine sd_for (j := 4) (id_range1 (n := (cols.length : Int)) (by omega) (by omega) (ED.to (ed_len (.inl rfl) (ev 1) T.len) (by rw [List.length_map])) T.range) (fun k δ => ∃ x3 x4, δ = [.val (blocksL bs), .val (colsL cols), .val (natD (l + 1)), x3, x4] ∧ canIn (lawCan l) bs (cols.drop k) = R0) ⟨_, _, rfl, hR⟩ ?_ ?_
          · rintro k d _ hk ⟨x3, x4, rfl, hI⟩
            obtain ⟨hk1, rfl⟩ := rangeD_get hk
            have hk2 : k < cols.length := by omega
            have hq : cols[k]? = some cols[k] := List.getElem?_eq_getElem hk2
            rw [show cols.drop k = cols[k] :: cols.drop (k + 1) from List.drop_eq_getElem_cons hk2] at hI
            have hm : cols[k] ∈ cols := List.getElem_mem hk2
            generalize cols[k] = r at hq hI hm
            have hre := hL _ hm
            unfold canIn at hI
            show SD _ [.val (blocksL bs), .val (colsL cols), .val (natD (l + 1)), x3, .val (.int (0 + (k : Int)))] _ _
            have hb2 : BOk L (lawPart bs r) := by rw [lawPart_parted]; exact hb.parted
            cases hc : lawCan l (cols.drop (k + 1)) (lawPart bs r) with
            | true =>
              rw [hc] at hI
              refine sd_yes (p := true) (td_v (ed_fn (lim + 2) D3 hr hG (ad_cons (ed_fn (lim + 2) D1 hr hG (ad_cons (ev 0) (ad_cons (ed_ixN (i := 0 + (k : Int)) (j := k) (ds := cols.map boolsL) (.inl rfl) (by omega) (by rw [List.getElem?_map, hq]; rfl) (ev 1) (ev 4)) ad_nil)) ⟨bs, r, hbl, fun b h => ⟨hb.one h, fun i hi => by rw [hre]; exact (hb.1 b h).2 i hi⟩, rfl, rfl⟩ (by omega))
                (ad_cons (ed_dropL (i := 0 + (k : Int) + 1) (j := k + 1) (by omega) (ev 1) (ed_add (ev 4) ed_int)) (ad_cons (d := natD l) (ED.to (ed_sub (ev 2) ed_int) (by unfold natD; congr 1; omega)) ad_nil))) ⟨L, cols.drop (k + 1), lawPart bs r, l, by rw [List.length_drop]; omega, fun q hq => hL q (List.mem_of_mem_drop hq), hb2, by omega, by omega, by unfold colsL; rw [List.map_drop], by rw [hc]⟩ (by omega))) ?_
              exact sd_ret ed_bl (by rw [← hI]; rfl)
            | false =>
              rw [hc, Bool.false_or] at hI
              refine sd_skip (p := false) (td_v (ed_fn (lim + 2) D3 hr hG (ad_cons (ed_fn (lim + 2) D1 hr hG (ad_cons (ev 0) (ad_cons (ed_ixN (i := 0 + (k : Int)) (j := k) (ds := cols.map boolsL) (.inl rfl) (by omega) (by rw [List.getElem?_map, hq]; rfl) (ev 1) (ev 4)) ad_nil)) ⟨bs, r, hbl, fun b h => ⟨hb.one h, fun i hi => by rw [hre]; exact (hb.1 b h).2 i hi⟩, rfl, rfl⟩ (by omega))
                (ad_cons (ed_dropL (i := 0 + (k : Int) + 1) (j := k + 1) (by omega) (ev 1) (ed_add (ev 4) ed_int)) (ad_cons (d := natD l) (ED.to (ed_sub (ev 2) ed_int) (by unfold natD; congr 1; omega)) ad_nil))) ⟨L, cols.drop (k + 1), lawPart bs r, l, by rw [List.length_drop]; omega, fun q hq => hL q (List.mem_of_mem_drop hq), hb2, by omega, by omega, by unfold colsL; rw [List.map_drop], by rw [hc]⟩ (by omega))) ?_
              exact sd_nil ⟨_, _, rfl, hI⟩
          · rintro _ ⟨x3, x4, rfl, hI⟩
            rw [rangeD_len, Int.toNat_natCast, List.drop_length] at hI
            exact sd_ret ed_bl (by rw [← hI]; rfl)
theorem w__law_can (T : Txt mg) (M : Fn K mg "_law_can" s__law_can ["_law_blocks", "_law_columns_here", "_law_many"]) (D1 : Def P w K mg base 1 "_law_part" 2 R__law_part) : ∀ lim, Def P w K mg base (lim + 2) "_law_can" 3 (R_can lim)
  | 0 => w_can_step T M D1 0 fun l h => by cases h
  | l + 1 => w_can_step T M D1 (l + 1) fun l' h => by cases h; exact w__law_can T M D1 l
def R_canT (lim : Nat) (ds : List PyData) (d : PyData) : Prop := ∃ L cols b many, cols.length ≤ 1000 ∧ (∀ r ∈ cols, r.length = L) ∧ b.length ≤ 1000 ∧ (∀ i ∈ b, i < L) ∧ many ≤ lim ∧ lim ≤ 10 ∧ ds = [intsL b, colsL cols, natD many] ∧ d = .bool (canInTurn cols many b)
theorem w_canT_step (T : Txt mg) (M : Fn K mg "_law_can_in_turn" s__law_can_in_turn ["_law_block", "_law_columns_here", "_law_many"]) (lim : Nat) (D2 : ∀ l, lim = l + 1 → Def P w K mg base (l + 1) "_law_can_in_turn" 3 (R_canT l)) : Def P w K mg base (lim + 1) "_law_can_in_turn" 3 (R_canT lim) := by
  refine def_fn lim M sc__law_can_in_turn (fun ds d ⟨_, _, _, _, _, _, _, _, _, _, e, _⟩ => by rw [e]; rfl) ?_
  rintro f cdv A outer s H E _ _ ⟨L, cols, b, left, hz, hL, hbz, hbl, hle, hlim, rfl, rfl⟩ hG hr nd
  show SD _ [.val (intsL b), .val (colsL cols), .val (natD left), .no, .no, .no] _ _
  by_cases h1 : b.length < 2
  · refine sd_yes (p := true) (TD.to (CD.td (cd_lt (ed_len (.inl rfl) (ev 0) T.len) ed_int)) (by rw [List.length_map]; exact decide_eq_true (by omega))) ?_
    exact sd_ret ed_bl (by rw [turn_small h1])
  refine sd_skip (p := false) (TD.to (CD.td (cd_lt (ed_len (.inl rfl) (ev 0) T.len) ed_int)) (by rw [List.length_map]; exact decide_eq_false (by omega))) ?_
  by_cases hb : 2 ^ left < b.length
  · refine sd_yes (p := true) (TD.to (CD.td (cd_gt (ed_len (.inl rfl) (ev 0) T.len) (ed_shl (i := 1) (j := (left : Int)) (by unfold CPow; exact ⟨by omega, by omega, by decide⟩) ed_int (ev 2)))) (by rw [List.length_map, pow_lt_dec]; exact decide_eq_true hb)) ?_
    exact sd_ret ed_bl (by rw [turn_big h1 hb])
  refine sd_skip (p := false) (TD.to (CD.td (cd_gt (ed_len (.inl rfl) (ev 0) T.len) (ed_shl (i := 1) (j := (left : Int)) (by unfold CPow; exact ⟨by omega, by omega, by decide⟩) ed_int (ev 2)))) (by rw [List.length_map, pow_lt_dec]; exact decide_eq_false hb)) ?_
  cases left with
  | zero => exact absurd (show 2 ^ 0 < b.length from by show 1 < _; omega) hb
  | succ l =>
    rw [turn_succ h1 hb]
    cases lim with
    | zero => exact absurd hle (Nat.not_succ_le_zero l)
    | succ lim =>
      have D3 := D2 lim rfl
      generalize hR : turnIn (canInTurn cols l) b cols = R0
      refine sd_for (j := 3) (id_list (ev 1)) (fun k δ => ∃ x3 x4 x5, δ = [.val (intsL b), .val (colsL cols), .val (natD (l + 1)), x3, x4, x5] ∧ turnIn (canInTurn cols l) b (cols.drop k) = R0) ⟨_, _, _, rfl, hR⟩ ?_ ?_
      · rintro k d _ hk ⟨x3, x4, x5, rfl, hI⟩
        rw [List.getElem?_map] at hk
        cases hq : cols[k]? with
        | none => rw [hq] at hk; cases hk
        | some r =>
          rw [hq] at hk
          cases hk
          obtain ⟨hk2, e2⟩ := List.getElem?_eq_some_iff.mp hq
          rw [show cols.drop k = cols[k] :: cols.drop (k + 1) from List.drop_eq_getElem_cons hk2, e2] at hI
          have hre := hL r (List.mem_of_getElem? hq)
          have hat : ∀ i ∈ b, i < r.length := fun i hi => by rw [hre]; exact hbl i hi
          unfold turnIn at hI
          dsimp only at hI
          show SD _ [.val (intsL b), .val (colsL cols), .val (natD (l + 1)), .val (boolsL r), x4, x5] _ _
          refine sd_setLcF 4 5 n__law_can_in_turn (defScope s__law_can_in_turn) [("_law_at", 5)] b natD (at2 r) natD (id_list (ev 0)) (by omega) (fun i hi s H C cl fp => ?_) (fun i hi hp s H C cl fp => ev 5) ?_
          · exact td_v (ed_ixN (.inl rfl) rfl (get_bools (hat i hi)) (ev 3) (ev 5))
          have hgood : AD ((cxOf CX0 P w K mg base n__law_can_in_turn "_law_can_in_turn" (defScope s__law_can_in_turn) f cdv A outer s H E).nox) [.val (intsL b), .val (colsL cols), .val (natD (l + 1)), .val (boolsL r), .val (intsL (b.filter (at2 r))), x5] [] [] := ad_nil
          have sbad : ∀ i ∈ b.filter (at2 r), i < L := fun i hi => hbl i (List.mem_filter.mp hi).1
          have sgood : ∀ i ∈ b.filter (fun i => !at2 r i), i < L := fun i hi => hbl i (List.mem_filter.mp hi).1
          have lbad : (b.filter (at2 r)).length ≤ 1000 := Nat.le_trans (List.length_filter_le _ _) hbz
          have lgood : (b.filter (fun i => !at2 r i)).length ≤ 1000 := Nat.le_trans (List.length_filter_le _ _) hbz
          show SD _ [.val (intsL b), .val (colsL cols), .val (natD (l + 1)), .val (boolsL r), .val (intsL (b.filter (at2 r))), x5] _ _
          refine sd_if (td_and3 (CD.td (cd_neE (x := b.filter (at2 r)) (y := []) hr ec_intsL (ev 4) (ed_lst ad_nil (by decide)))) (fun _ => CD.td (cd_lt (ed_len (.inl rfl) (ev 4) T.len) (ed_len (.inl rfl) (ev 0) T.len)))
            (fun _ _ => td_v (ed_fn (lim + 1) D3 hr hG (ad_cons (ev 4) (ad_cons (ev 1) (ad_cons (d := natD l) (ED.to (ed_sub (ev 2) ed_int) (by unfold natD; congr 1; omega)) ad_nil))) ⟨L, cols, b.filter (at2 r), l, hz, hL, lbad, sbad, by omega, by omega, rfl, rfl⟩ (by omega)))) (fun hp => ?_) (fun hp => ?_)
          · obtain ⟨p1, p23⟩ := Bool.and_eq_true_iff.mp hp
            obtain ⟨p2, p3⟩ := Bool.and_eq_true_iff.mp p23
            have q1 : b.filter (at2 r) ≠ [] := fun z => by rw [z] at p1; cases p1
            have q2 : (b.filter (at2 r)).length < b.length := by
              have := of_decide_eq_true p2
              rw [List.length_map, List.length_map] at this
              omega
            refine sd_if (td_v (ed_fn (lim + 1) D3 hr hG (ad_cons (LD.ed (ld_lcF 5 n__law_can_in_turn (defScope s__law_can_in_turn) [("_law_at", 5)] b natD (fun i => !at2 r i) natD (id_list (ev 0)) (by omega) (fun i hi s H C cl fp => td_not (td_v (ed_ixN (.inl rfl) rfl (get_bools (hat i hi)) (ev 3) (ev 5)))) (fun i hi hp s H C cl fp => ev 5)))
              (ad_cons (ev 1) (ad_cons (d := natD l) (ED.to (ed_sub (ev 2) ed_int) (by unfold natD; congr 1; omega)) ad_nil))) ⟨L, cols, b.filter (fun i => !at2 r i), l, hz, hL, lgood, sgood, by omega, by omega, rfl, rfl⟩ (by omega))) (fun hp2 => ?_) (fun hp2 => ?_)
            · rw [if_pos ⟨q1, q2, p3, hp2⟩] at hI
              exact sd_ret ed_bl (by rw [← hI])
            · rw [if_neg (fun z => by rw [z.2.2.2] at hp2; cases hp2)] at hI
              exact sd_nil (sd_nil (sd_nil ⟨_, _, _, rfl, hI⟩))
          · rw [if_neg (fun z => by
              rw [decide_eq_false z.1, z.2.2.1] at hp
              rw [decide_eq_true (by rw [List.length_map, List.length_map]; omega)] at hp
              cases hp)] at hI
            exact sd_nil (sd_nil ⟨_, _, _, rfl, hI⟩)
      · rintro _ ⟨x3, x4, x5, rfl, hI⟩
        rw [List.length_map, List.drop_length] at hI
        exact sd_ret ed_bl (by rw [← hI]; rfl)
theorem w__law_can_in_turn (T : Txt mg) (M : Fn K mg "_law_can_in_turn" s__law_can_in_turn ["_law_block", "_law_columns_here", "_law_many"]) : ∀ lim, Def P w K mg base (lim + 1) "_law_can_in_turn" 3 (R_canT lim)
  | 0 => w_canT_step T M 0 fun l h => by cases h
  | l + 1 => w_canT_step T M (l + 1) fun l' h => by cases h; exact w__law_can_in_turn T M l
end
end C9
set_option Elab.async false
set_option linter.all false
set_option maxRecDepth 100000
set_option maxHeartbeats 1000000
namespace C9
open PySem PySem.Spec PyProof.Rows L2 LamX
def lawFound (n m : Nat) : List (List Nat) := (List.range (2 ^ n)).flatMap fun b => let s := (List.range n).filter fun c => decide (b / 2 ^ c % 2 = 1); if s.length ≤ m then [s] else []
def keyD (x : List Nat) : PyData := .tuple [natD x.length, intsT x]
theorem found_perm : ∀ n ≤ 5, ∀ m ≤ 5, (lawFound n m).Perm (everySet n m) := by decide +kernel
theorem found_sorted : ∀ n ≤ 5, ∀ m ≤ 5, (everySet n m).Pairwise fun a b => PySem.W.dataLe false keyD a b = true := by decide +kernel
theorem key_anti : ∀ a ∈ everySet 5 5, ∀ b ∈ everySet 5 5, PySem.W.dataLe false keyD a b = true → PySem.W.dataLe false keyD b a = true → a = b := by decide +kernel
theorem key_alike : ∀ a ∈ everySet 5 5, ∀ b ∈ everySet 5 5, PySem.W.alike (keyD a) (keyD b) = true := by decide +kernel
theorem found_sort {n m : Nat} (hn : n ≤ 5) (hm : m ≤ 5) : (lawFound n m).mergeSort (PySem.W.dataLe false keyD) = everySet n m := by
  have T := PySem.W.sortLe_total (PyProof.Rows.listOrd PyProof.Rows.itemOrd) false fun b => PySem.W.keyToks (keyD b)
  refine List.Perm.eq_of_pairwise (le := fun a b => PySem.W.dataLe false keyD a b = true) (fun a b ha hb h1 h2 => ?_) (PySem.W.sort_pairwise T _) (found_sorted n hn m hm) ((List.mergeSort_perm _ _).trans (found_perm n hn m hm))
  have ha' : a ∈ everySet n m := (found_perm n hn m hm).mem_iff.mp ((List.mergeSort_perm _ _).mem_iff.mp ha)
  exact key_anti a (all5_in n hn m hm a ha') b (all5_in n hn m hm b hb) h1 h2
/-- what sorting knows of an item -/
def RowV (G : Hp) (h : Heap) (v : Value) (x : List Nat) : Prop := ∃ (a : Addr) (its : List Value), v = .ref a ∧ Dd G (.ref a) (intsT x) ∧ IsTup h a its.toArray ∧ ReadsAll h its (x.map natD) [] ∧ its.length = x.length ∧ x.length ≤ 100000
theorem reads_nats {h : Heap} : ∀ {x : List Nat} {us : List V} {its : List Value} {G : Hp}, DdAll G us (x.map natD) → Vals us its → ReadsAll h its (x.map natD) []
  | [], _, _, _, .nil, .nil => .nil
  | n :: x, _, _, _, .cons d r, .cons v vs => by
    cases d with
    | int =>
      obtain ⟨t, rfl⟩ := v
      exact ReadsAll.cons (as := []) (bs := []) (.int _ _) (reads_nats r vs)
theorem rows_of {X : Cx} {pins : List (Addr × Obj)} {σ : L2.St} {G H : Hp} {s : Shared} (I : Inv X pins σ H s) (gh : Ex G H) : ∀ {bs : List (List Nat)} {vs : List V} {us : List Value}, (∀ b ∈ bs, b.length ≤ 100000) → DdAll G vs (bs.map intsT) → Vals vs us → PySem.W.EachIs (RowV G s.heap) us bs
  | [], _, _, _, .nil, .nil => .nil
  | b :: bs, _, _, hz, .cons d r, .cons v vs => by
    refine .cons ?_ (rows_of I gh (fun b' hb => hz b' (List.mem_cons_of_mem _ hb)) r vs)
    cases d with
    | @tup a xs _ h1 r1 =>
      cases v
      obtain ⟨its, rv, ht, _⟩ := I.tuple (.inl (.inl (gh _ _ h1)))
      have hl : its.length = b.length := by rw [← rv.length, dda_len r1, List.length_map]
      exact ⟨a, its, rfl, .tup h1 r1, ht, reads_nats r1 rv, hl, hz b List.mem_cons_self⟩
def vOf : Value → V
  | .ref a => .ref a
  | _ => .non
theorem of_rows {G : Hp} {h : Heap} : ∀ {us : List Value} {bs : List (List Nat)}, PySem.W.EachIs (RowV G h) us bs → Vals (us.map vOf) us ∧ DdAll G (us.map vOf) (bs.map intsT)
  | _, _, .nil => ⟨.nil, .nil⟩
  | _, _, .cons hd tl => by
    obtain ⟨a, its, rfl, d, _⟩ := hd
    obtain ⟨h1, h2⟩ := of_rows tl
    exact ⟨.cons rfl h1, .cons d h2⟩
/-- sorted(y, key=lambda x: (len(x), x)) -/
theorem ld_sortedLam {X : Cx} {δ : List Sl} {i j : Nat} {c P : Addr} {x y : Str} {params : Arguments} {scope : Scope} {p p1 p2 p3 p4 p5 py lp kp pos : Pos} {k1 : Nat} {bs : List (List Nat)} (hd : δ[i]? = some (.own (bs.map intsT))) (TB : TabB X.base X.mg c P) (hcode : X.env.code = .ref c) (hat : TabAt X.K X.mg X.base P)
    (hr : Room (j + 3) X.A) (hq : X.env.qual ++ "<lambda>" = lamQ) (hz : bs.length ≤ 100000) (hzs : ∀ b ∈ bs, b.length ≤ 100000) (hal : ∀ a ∈ bs, ∀ b ∈ bs, PySem.W.alike (keyD a) (keyD b) = true) (hmS : X.mg "sorted" = none) (hmL : X.mg "len" = none)
    (hbind : ∀ v cl pm cv ctv, bindArgs (PySem.W.kla_fn "<lambda>" lamQ params (lamBody x p1 p2 p3 p4 p5 k1) scope cl pm cv ctv) ⟨[v], []⟩ = pure [(x, v)]) (hk : scope.kind = .function) (hco : scope.isCoroutine = false) (hgen : scope.isGenerator = false) (hcell : ∀ y ∈ scope.names, y.2 ≠ .cell)
    (hx : scope.names.lookup x = some .local) (hl : scope.names.lookup ("len" : Str) = some .globalImplicit) (hdx : (x == ("__debug__" : Str)) = false)
    (hdef : defaultsOf params X.env = ([], [])) (hcl : cloFrom X.env.cells scope.names [] = []) (hfree : ∀ y ∈ scope.names, y.2 = .free → ∃ c, X.env.cells.lookup y.1 = some c)
    (hc : X.calm = true := by rfl) (hN : X.N[i]? = some y := by rfl) (hv : Vis X.env.scope y := by first | exact Or.inl rfl | exact Or.inr (Or.inl rfl) | exact Or.inr (Or.inr rfl)) (h1 : (y == ("__debug__" : Str)) = false := by decide) (h2 : (y == ("__classdict__" : Str)) = false := by decide) (hg : Gl X "sorted" := by rfl) :
    LD X δ (.Call (.Name "sorted" p) [.Name y py] [⟨some "key", .Lambda params (lamBody x p1 p2 p3 p4 p5 k1) scope lp, kp⟩] pos) ((bs.mergeSort (PySem.W.dataLe false keyD)).map intsT) := fun B σ G H Q rs k pins s I => by
  obtain ⟨o, eo, l, vs, rfl, q1, q2, q3, q4⟩ := rs.get hd
  refine wpAny_Call_Name_kw (ld_blt (u := .builtin "sorted") I hg hmS (by decide +kernel) ?_)
  refine PyProof.Rows.callWith_kw (thn ((pa_cons (pe_var (pos := py) hN hv h1 h2) pa_nil (by rfl)).run pos pins s σ H (fun vs' H1 => vs' = [.ref l] ∧ H1 = H) I ⟨.ref l, eo, rfl, rfl⟩) fun us s1 ⟨vs', H1, I1, r1, e1, e2⟩ => ?_) (by rfl) (by rfl) (by rfl) (by rfl)
  subst e1 e2
  cases r1 with
  | cons r rr =>
    cases rr
    cases r
    show wpAny _ _ (evalAll ((do let v ← eval (.Lambda params (lamBody x p1 p2 p3 p4 p5 k1) scope lp) X.env; standAt pos; pure v) :: [])) _ _ s1
    have tb := rs.tab.gr rs.gr
    refine wpAny_evalAll_cons (wpAny_bind (lam_mk (G := G) I1 rs.ex TB hcode hq tb.1 (tb.2 P hat) hdef hcl hfree fun f c' pm ctv H2 s2 I2 g2 hf hfc => wpAny_bind (wpAny_standAt (wpAny_pure (wpAny_evalAll_nil ?_)))))
    have hl2 : H2 l = some (.lst vs) := g2.hh _ _ q3
    obtain ⟨its, rv, pl, hzl⟩ := I2.list (.inl (.inl hl2))
    have rows := rows_of I2 g2.gh hzs q4 rv
    obtain ⟨mb, b1, b2⟩ := I2.ok.mod.blt
    obtain ⟨⟨oc, cvs, ct, hoc, hdc, hvc⟩, _, _⟩ := I2.hok c' _ hfc
    show wpAny _ _ (call (.builtin "sorted") [.ref l] [(Str.ofString "key", .ref f)]) _ _ s2
    refine PySem.W.sorted_key_data (vs := its) (bs := bs) (R := RowV G s2.heap) keyD pl.isList rows (fun d h d' h' => ?_) (.inl fun d h => ?_) (Nat.le_trans hz (by decide)) (fun b hb => ?_) (PyProof.Rows.ksk_s1 _ _) (fun _ => PyProof.Rows.ksk_l1 _ _) (fun _ => PyProof.Rows.ksk_t1 _ _) (fun v b hR hb h tk kp => ?_) fun out cc h' tk kp hn hS hlen hout => ?_
    · obtain ⟨a, ha, rfl⟩ := List.mem_map.mp h
      obtain ⟨b, hb, rfl⟩ := List.mem_map.mp h'
      exact hal a ha b hb
    · obtain ⟨a, ha, rfl⟩ := List.mem_map.mp h
      exact ⟨_, _, rfl⟩
    · have := hr.un
      have hdep : (keyD b).depth ≤ 2 := by
        have q := ec_intsT.dep b
        show max (natD b.length).depth (max (intsT b).depth 0) + 1 ≤ 2
        have h0 : (natD b.length).depth = 0 := rfl
        rw [h0]
        have := Nat.max_le.mpr ⟨Nat.zero_le 1, Nat.max_le.mpr ⟨q, Nat.zero_le 1⟩⟩
        omega
      omega
    · obtain ⟨a, its', rfl, _, ht, hrd, hln, hzz⟩ := hR
      have e : (keyD b) = .tuple [.int ((its'.toArray).size : Int), .tuple (b.map natD)] := by
        unfold keyD
        rw [List.size_toArray, hln]; rfl
      rw [e]
      refine lam_turn (s := { s2 with heap := h, toks := tk }) (A := X.A.in1.in1) ?_ (kp _ _ hf) ⟨c', oc, cvs, ct, rfl, kp _ _ hoc, hdc, hvc⟩ ((I2.ok.mod.glob.keeps I2.bk).keeps kp) hmL ((b1.keeps I2.bk).keeps kp) ((b2 "len" (by decide)).trans (by decide +kernel)) (I2.nolimit.keeps kp) ?_ ?_ ?_ hbind hk hco hgen hcell hx hl hdx
      · exact hr.in1.in1.depth
      · obtain ⟨o, e, r⟩ := ht
        exact ⟨o, kp _ _ e, r⟩
      · exact ReadsAll.keeps kp hrd
      · rw [List.size_toArray, hln]; exact hzz
    · obtain ⟨rv2, dd2⟩ := of_rows hout
      have nS : H2 (s2.heap.objs.size + 1) = none := I2.hok.fresh (Nat.le_succ _)
      refine ⟨.ref (s2.heap.objs.size + 1), upd H2 (s2.heap.objs.size + 1) (.lst (out.map vOf)), I2.laid (t' := tk) kp (Nat.le_succ _) ⟨?_, out, cc, rv2, hS⟩, rfl, k _ (out.map vOf) G _ (g2.trans (Gr.raw g2.gh nS)) (g2.hh.free nS) (g2.gh.free nS) upd_same dd2⟩
      rw [List.length_map, hlen]
      exact Nat.le_trans hz (by decide)
end C9
set_option Elab.async false
set_option linter.all false
set_option maxRecDepth 100000
set_option maxHeartbeats 2000000
namespace C9
open PySem PySem.Spec PyProof.Rows L2 LamX
theorem bit_at : ∀ b : Nat, b < 32 → ∀ c : Nat, c < 5 → decide (Builtin.bitAnd ((b : Int) / (2 : Int) ^ ((c : Int)).toNat) 1 = 1) = decide (b / 2 ^ c % 2 = 1) := by decide +kernel
theorem law_sets_eq : ∀ n ≤ 5, ∀ m ≤ 5, (lawFound n m).length ≤ 32 := by decide +kernel
def foundTo (n m k : Nat) : List (List Nat) := (List.range k).flatMap fun b => let s := (List.range n).filter fun c => decide (b / 2 ^ c % 2 = 1); if s.length ≤ m then [s] else []
theorem foundTo_len (n m : Nat) : ∀ k, (foundTo n m k).length ≤ k
  | 0 => Nat.le_refl _
  | k + 1 => by
    unfold foundTo
    rw [List.range_succ, List.flatMap_append, List.length_append]
    have h1 := foundTo_len n m k
    unfold foundTo at h1
    have h2 : ([k].flatMap fun b => let s := (List.range n).filter fun c => decide (b / 2 ^ c % 2 = 1); if s.length ≤ m then [s] else []).length ≤ 1 := by
      rw [List.flatMap_cons, List.flatMap_nil, List.append_nil]
      dsimp only
      split <;> simp
    omega
/-- the def that makes the lambda -/
structure FnL (K : PySem.W.Frag) (mg : Str → Option Value) (base : Heap) (x : Str) (st : Stmt) (ps : List Str) : Prop where
  ex : ∃ (f : Addr) (fd : FuncData) (c P : Addr), Fun K x x st f fd ∧ mg x = some (.ref f) ∧ Binds K fd ps [] ∧ KwB x fd ps ∧ fd.code = .ref c ∧ TabB base mg c P
section
variable {P : Program} {w : World} {K : PySem.W.Frag} {mg : Str → Option Value} {base : Heap}
def R__law_sets (ds : List PyData) (d : PyData) : Prop := ∃ n m : Nat, n ≤ 5 ∧ m ≤ 5 ∧ ds = [natD n, natD m] ∧ d = setsL (everySet n m)
theorem w__law_sets (T : Txt mg) (M : FnL K mg base "_law_sets" s__law_sets ["_law_number", "_law_most"]) : Def P w K mg base 5 "_law_sets" 2 R__law_sets := by
  obtain ⟨f, fd, c, P0, F, hm, hb, hkw, hcode, TB⟩ := M.ex
  refine def_ofC (k := 4) F sc__law_sets hm hb hkw (fun ds d ⟨_, _, _, _, e, _⟩ => by rw [e]; rfl) ?_
  rintro X cdv hcd ⟨ob, hob, hod⟩ A outer s H E rfl hG hr _ _ ⟨n, m, hn, hm5, rfl, rfl⟩
  have nd := sc__law_sets.nd
  show SD _ [.val (natD n), .val (natD m), .no, .no, .no, .no] _ _
  have h2n : (2 : Nat) ^ n ≤ 32 := by
    have := Nat.pow_le_pow_right (show 0 < 2 by decide) hn
    exact Nat.le_trans this (by decide)
  refine sd_own (i := 2) (ds := []) (ld_lst ad_nil (by decide)) ?_
  refine sd_for (j := 3) (id_range1 (n := ((2 ^ n : Nat) : Int)) (Int.le_trans (by decide) (Int.natCast_nonneg _)) (Int.le_trans (Int.ofNat_le.mpr h2n) (by decide)) (ED.to (ed_shl (i := 1) (j := (n : Int)) (by unfold CPow; exact ⟨by omega, by omega, by decide⟩) ed_int (ev 0)) ?_) T.range) (fun k δ => ∃ x3 x4 x5, δ = [.val (natD n), .val (natD m), .own ((foundTo n m k).map intsT), x3, x4, x5]) ⟨_, _, _, rfl⟩ ?_ ?_
  · rw [Int.one_mul, Int.toNat_natCast, Int.natCast_pow]; rfl
  · rintro k d _ hk ⟨x3, x4, x5, rfl⟩
    obtain ⟨hk1, rfl⟩ := rangeD_get hk
    rw [Int.toNat_natCast] at hk1
    have hk32 : k < 32 := Nat.lt_of_lt_of_le hk1 h2n
    have hfl := foundTo_len n m k
    show SD _ [.val (natD n), .val (natD m), .own ((foundTo n m k).map intsT), .val (.int (0 + (k : Int))), x4, x5] _ _
    refine sd_set (i := 4) (d := intsT ((List.range n).filter fun c => decide (k / 2 ^ c % 2 = 1))) (ED.to (ed_tuple (LD.ed (ld_lcF 5 n__law_sets (defScope s__law_sets) [("_law_cask", 5)] (List.range n) natD (fun c => decide (k / 2 ^ c % 2 = 1)) natD (ID.to (id_range1 (n := (n : Int)) (by omega) (by omega) (ev 0) T.range) ?_) ?_ (fun c hc s H C cl fp => ?_) (fun c hc hp s H C cl fp => ev 5))) T.tuple) rfl) ?_
    · exact rangeD_nat n
    · rw [List.length_range]; omega
    · have hc5 : c < 5 := Nat.lt_of_lt_of_le (List.mem_range.mp hc) hn
      refine CD.td (CD.to (cd_eqI (ed_bitand (ed_shr (i := (k : Int)) (j := (c : Int)) (by omega) (ED.to (ev 3) (by rw [Int.zero_add])) (ev 5)) ed_int) ed_int) ?_)
      rw [bit_at k hk32 c hc5]
    · have ek : foundTo n m (k + 1) = foundTo n m k ++ (let s := (List.range n).filter fun c => decide (k / 2 ^ c % 2 = 1); if s.length ≤ m then [s] else []) := by
        unfold foundTo
        rw [List.range_succ, List.flatMap_append]
        congr 1
        rw [List.flatMap_cons, List.flatMap_nil, List.append_nil]
      rw [ek]
      dsimp only
      generalize (List.range n).filter (fun c => decide (k / 2 ^ c % 2 = 1)) = sm
      show SD _ [.val (natD n), .val (natD m), .own ((foundTo n m k).map intsT), .val (.int (0 + (k : Int))), .val (intsT sm), x5] _ _
      by_cases hs : sm.length ≤ m
      · rw [if_pos hs]
        refine sd_yes (p := true) (TD.to (CD.td (cd_le (ed_len (.inr rfl) (ev 4) T.len) (ev 1))) (by rw [List.length_map]; exact decide_eq_true (by omega))) ?_
        refine sd_append (i := 2) (d := intsT sm) rfl (by rw [List.length_map]; omega) (ev 4) (sd_nil (sd_nil ⟨.val (.int (0 + (k : Int))), .val (intsT sm), x5, ?_⟩))
        rw [List.map_append]; rfl
      · rw [if_neg hs, List.append_nil]
        exact sd_skip (p := false) (TD.to (CD.td (cd_le (ed_len (.inr rfl) (ev 4) T.len) (ev 1))) (by rw [List.length_map]; exact decide_eq_false (by omega))) (sd_nil ⟨_, _, _, rfl⟩)
  · rintro _ ⟨x3, x4, x5, rfl⟩
    rw [rangeD_len, Int.toNat_natCast]
    show SD _ [.val (natD n), .val (natD m), .own ((lawFound n m).map intsT), x3, x4, x5] _ _
    have hin : ∀ a ∈ lawFound n m, a ∈ everySet 5 5 := fun a ha => all5_in n hn m hm5 a ((found_perm n hn m hm5).mem_iff.mp ha)
    refine sd_ret (LD.ed (ld_sortedLam (i := 2) (j := 1) (P := P0) (c := c) (bs := lawFound n m) rfl TB (by rw [← hcode, hcd]; rfl) ⟨f, c, ob, fd, hm, hob, hod, hcode, TB.code⟩ hr (by rfl) (Nat.le_trans (law_sets_eq n hn m hm5) (by decide)) (fun b hb => Nat.le_trans (all5_len b (hin b hb)) (by decide)) (fun a ha b hb => key_alike a (hin a ha) b (hin b hb)) T.sorted T.len
      (fun _ _ _ _ _ => rfl) rfl rfl rfl ?_ rfl rfl (by decide) rfl rfl ?_)) ?_
    · decide +kernel
    · intro y hy e
      exact absurd e ((show ∀ y ∈ _, y.2 ≠ NameKind.free from by decide +kernel) y hy)
    · rw [found_sort hn hm5]; rfl
end
end C9
set_option Elab.async false
set_option linter.all false
set_option maxRecDepth 100000
set_option maxHeartbeats 2000000
namespace C9
open PySem PySem.Spec PyProof.Rows L2 LamX
theorem all5_show : ∀ l ∈ everySet 5 5, (intsT l).shown.length ≤ 100 ∧ (intsT l).showable = true ∧ (intsT l).hasDict = false := by decide +kernel
/-- repr(x) -/
theorem cr_repr {X : Cx} (hG : X.A.guards = some []) (hu : X.A.units + 64 < cLine) : CallR X (.builtin "repr") (fun xs H Q => ∃ p d, xs = [V.ref p] ∧ Dp X.K H (.ref p) d ∧ d.showable = true ∧ d.hasDict = false ∧ d.depth ≤ 50 ∧ d.shown.length ≤ 1000 ∧ Q (.str d.shown) H) := by
  intro pins s σ H xs us Q I r h
  obtain ⟨p, d, rfl, dp, h1, h2, h3, h4, q⟩ := h
  obtain ⟨u, rfl, rx⟩ := vals1 r
  obtain rfl : u = Value.ref p := rx
  obtain ⟨as, rd⟩ := Dp.reads I d _ _ dp rfl
  exact repr_of_reads' rd h1 (PyData.noDict_hsm h2) hG (by omega) (fun _ _ e => e) (fun h' t tk hk => ⟨.str d.shown, H, I.kept hk, ⟨_, rfl⟩, q⟩) (Nat.le_trans h4 (by decide))
theorem ed_repr {X : Cx} {δ : List Sl} {a : Expr} {p pos : Pos} {l : List Nat} (hG : X.A.guards = some []) (hu : X.A.units + 64 < cLine) (ha : ED X δ a (intsT l)) (hl : l ∈ everySet 5 5) (hm : X.mg "repr" = none) (hg : Gl X "repr" := by rfl) (hs : starEach [a] X.env = (false, eval a X.env) :: starEach [] X.env := by rfl) :
    ED X δ (.Call (.Name "repr" p) [a] [] pos) (.str (intsT l).shown) :=
  ED.of (pe_callB (cr_repr hG hu) hg hm (by decide +kernel) (pa_cons pe_rd pa_nil hs) (by decide) (by decide) hs) fun B σ G H Q rs k => ha B σ G H _ rs fun v G1 H1 g1 d1 => by
    obtain ⟨h1, h2, h3⟩ := all5_show l hl
    have dd := dd_ex g1.gh d1
    cases d1 with
    | @tup q vs _ e1 r1 => exact ⟨q, intsT l, rfl, dd.dp, h2, h3, Nat.le_trans (ec_intsT.dep l) (by decide), Nat.le_trans h1 (by decide), k _ G1 H1 g1 (.str _)⟩
theorem inV_mem {x : Str} {l : List Str} (h : x ∈ l) : inV (flat (.str x)) ((l.map PyData.str).map flat) = true := by
  unfold inV
  rw [List.map_map, List.any_map, List.any_eq_true]
  refine ⟨x, h, ?_⟩
  show (x == x) = true
  exact beq_self_eq_true x
theorem flat_strs (l : List Str) : (l.map PyData.str).all isFlat = true := by
  rw [List.all_map, List.all_eq_true]
  intro x _; rfl
section
variable {P : Program} {w : World} {K : PySem.W.Frag} {mg : Str → Option Value} {base : Heap}
def R__law_are_glasses (ds : List PyData) (d : PyData) : Prop := ∃ gs n, gs.length ≤ 1000 ∧ n ≤ 5 ∧ (∀ g ∈ gs, g ∈ everySet n n ∧ g ≠ []) ∧ ds = [glassesT gs, natD n] ∧ d = .bool true
theorem w__law_are_glasses (T : Txt mg) (M : Fn K mg "_law_are_glasses" s__law_are_glasses ["_law_value", "_law_number"]) (D1 : Def P w K mg base 5 "_law_sets" 2 R__law_sets) : Def P w K mg base 6 "_law_are_glasses" 2 R__law_are_glasses := by
  refine def_fn 5 M sc__law_are_glasses (fun ds d ⟨_, _, _, _, _, e, _⟩ => by rw [e]; rfl) ?_
  rintro f cdv A outer s H E _ _ ⟨gs, n, hz, hn, hg, rfl, rfl⟩ hG hr nd
  show SD _ [.val (glassesT gs), .val (natD n), .no, .no, .no] _ _
  have hlen := (bnd_sets n hn n hn).2
  have hu := un64 hr
  refine sd_skip (td_not (td_v (ed_isi (ev 0) rfl rfl T.isinstance T.tuple))) ?_
  refine sd_set (i := 2) (LD.ed (ld_lcF 3 n__law_are_glasses (defScope s__law_are_glasses) [("_law_some", 3)] (everySet n n) intsT (fun l => !decide (l = [])) (fun l => .str (intsT l).shown) (id_list (ed_fn 5 D1 hr hG (ad_cons (ev 1) (ad_cons (ev 1) ad_nil)) ⟨n, n, hn, hn, rfl, rfl⟩)) (by omega) (fun l hl s H C cl fp => CD.td (cd_neE (x := l) (y := []) hr ec_intsT (ev 3) (ed_tup ad_nil (by decide)))) (fun l hl hp s H C cl fp => ed_repr hG hu (ev 3) (all5_in n hn n hn l hl) T.repr))) ?_
  have e1 : (gs.map fun _ => true).all id = true := by simp
  refine sd_ret (ED.to (ed_all (bs := gs.map fun _ => true) (ED.to (LD.ed (ld_lc 4 n__law_are_glasses (defScope s__law_are_glasses) [("_law_glass", 4)] gs intsT (fun _ => .bool true) (id_tup (ev 0)) (by omega) (fun g h s H C cl fp => ?_))) (by rw [List.map_map]; rfl)) T.all) (by rw [e1])) rfl
  obtain ⟨q1, q2⟩ := hg g h
  have em : (((everySet n n).filter fun l => !decide (l = [])).map fun l => PyData.str (intsT l).shown) = (((everySet n n).filter fun l => !decide (l = [])).map fun l => (intsT l).shown).map PyData.str := by rw [List.map_map]; rfl
  refine CD.ed (CD.to (cd_in (ds := (((everySet n n).filter fun l => !decide (l = [])).map fun l => PyData.str (intsT l).shown)) (.inl rfl) rfl (by rw [em]; exact flat_strs _) rfl (ed_repr hG hu (ev 4) (all5_in n hn n hn g q1) T.repr) (ev 2)) ?_)
  rw [em, inV_mem (x := (intsT g).shown) (List.mem_map.mpr ⟨g, List.mem_filter.mpr ⟨q1, by rw [decide_eq_false q2]; rfl⟩, rfl⟩)]
def colStep (sets : List (List Nat)) (c : Option Nat) (acc : List (List Bool)) (g : List Nat) : List (List Bool) := let r := sets.map fun s => lawBad g s c; if acc.any fun x => decide (x = r) then acc else acc ++ [r]
theorem col_len (sets : List (List Nat)) (c : Option Nat) : ∀ (l : List (List Nat)) (acc : List (List Bool)), (l.foldl (colStep sets c) acc).length ≤ acc.length + l.length
  | [], acc => Nat.le_refl _
  | g :: l, acc => by
    refine Nat.le_trans (col_len sets c l _) ?_
    unfold colStep
    rw [List.length_cons]
    dsimp only
    split
    · omega
    · rw [List.length_append]; show _ + 1 + _ ≤ _; omega
theorem col_told (sets : List (List Nat)) (c : Option Nat) : ∀ (l : List (List Nat)) (acc : List (List Bool)), (∀ q ∈ acc, q.length = sets.length) → ∀ q ∈ l.foldl (colStep sets c) acc, q.length = sets.length
  | [], acc, h => h
  | g :: l, acc, h => by
    refine col_told sets c l _ ?_
    unfold colStep
    dsimp only
    split
    · exact h
    · intro q hq
      rcases List.mem_append.mp hq with z | z
      · exact h q z
      · rw [List.mem_singleton.mp z, List.length_map]
def R__law_columns (ds : List PyData) (d : PyData) : Prop := ∃ n sets x c, n ≤ 5 ∧ sets.length ≤ 1000 ∧ FD x c ∧ ds = [natD n, setsL sets, x] ∧ d = colsL (columns n sets c)
theorem w__law_columns (T : Txt mg) (M : Fn K mg "_law_columns" s__law_columns ["_law_number", "_law_sets_here", "_law_faint"]) (D1 : Def P w K mg base 5 "_law_sets" 2 R__law_sets) (D2 : Def P w K mg base 1 "_law_bad" 3 R__law_bad) : Def P w K mg base 6 "_law_columns" 3 R__law_columns := by
  refine def_fn 5 M sc__law_columns (fun ds d ⟨_, _, _, _, _, _, _, e, _⟩ => by rw [e]; rfl) ?_
  rintro f cdv A outer s H E _ _ ⟨n, sets, x, c, hn, hz, hx, rfl, rfl⟩ hG hr nd
  show SD _ [.val (natD n), .val (setsL sets), .val x, .no, .no, .no, .no] _ _
  have hu : ((cxOf CX0 P w K mg base n__law_columns "_law_columns" (defScope s__law_columns) f cdv A outer s H E).nox).A.units + 65 < cLine := by have := hr.un; omega
  have e0 : ((everySet n n).map intsT).drop 1 = ((everySet n n).drop 1).map intsT := List.map_drop.symm
  have hlen := (bnd_sets n hn n hn).2
  refine sd_own (i := 3) (ds := []) (ld_lst ad_nil (by decide)) ?_
  refine sd_for (j := 4) (ID.to (id_list (ed_dropL (j := 1) rfl (ed_fn 5 D1 hr hG (ad_cons (ev 0) (ad_cons (ev 0) ad_nil)) ⟨n, n, hn, hn, rfl, rfl⟩) ed_int)) e0) (fun k δ => ∃ x4 x5 x6, δ = [.val (natD n), .val (setsL sets), .val x, .own (((((everySet n n).drop 1).take k).foldl (colStep sets c) []).map boolsL), x4, x5, x6]) ⟨_, _, _, rfl⟩ ?_ ?_
  · rintro k d _ hk ⟨x4, x5, x6, rfl⟩
    rw [List.getElem?_map] at hk
    cases hq : ((everySet n n).drop 1)[k]? with
    | none => rw [hq] at hk; cases hk
    | some g =>
      rw [hq] at hk
      cases hk
      have hg5 : g.length ≤ 5 := all5_len g (all5_in n hn n hn g (List.mem_of_mem_drop (List.mem_of_getElem? hq)))
      have hkl : k < ((everySet n n).drop 1).length := (List.getElem?_eq_some_iff.mp hq).1
      rw [List.length_drop] at hkl
      have hacc := col_len sets c (((everySet n n).drop 1).take k) []
      rw [List.length_take, List.length_nil] at hacc
      have ek : ((everySet n n).drop 1).take (k + 1) = ((everySet n n).drop 1).take k ++ [g] := by rw [List.take_succ, hq]; rfl
      rw [ek, List.foldl_append]
      show SD _ [.val (natD n), .val (setsL sets), .val x, .own (((((everySet n n).drop 1).take k).foldl (colStep sets c) []).map boolsL), .val (intsT g), x5, x6] _ _
      generalize (((everySet n n).drop 1).take k).foldl (colStep sets c) [] = acc at hacc ⊢
      refine sd_setLc 5 6 n__law_columns (defScope s__law_columns) [("_law_some", 6)] sets intsT (fun s => .bool (lawBad g s c)) (id_list (ev 1)) (by omega) (fun s hs s H C cl fp => ed_fn 5 D2 hr hG (ad_cons (ev 4) (ad_cons (ev 6) (ad_cons (ev 2) ad_nil))) ⟨g, _, x, c, hg5, hx, rfl, rfl⟩) ?_
      have er : (PyData.list (sets.map fun s => .bool (lawBad g s c))) = boolsL (sets.map fun s => lawBad g s c) := by unfold boolsL; rw [List.map_map]; rfl
      rw [er]
      show SD _ [.val (natD n), .val (setsL sets), .val x, .own (acc.map boolsL), .val (intsT g), .val (boolsL (sets.map fun s => lawBad g s c)), x6] _ _
      have ea : ((acc.map boolsL).any fun z => PyData.eqv z (boolsL (sets.map fun s => lawBad g s c))) = acc.any fun z => decide (z = sets.map fun s => lawBad g s c) := by
        rw [List.any_map]
        congr 1
        funext z
        exact ec_boolsL.eq _ _
      have es : [g].foldl (colStep sets c) acc = if acc.any (fun z => decide (z = sets.map fun s => lawBad g s c)) then acc else acc ++ [sets.map fun s => lawBad g s c] := rfl
      rw [es]
      by_cases hb : (acc.any fun z => decide (z = sets.map fun s => lawBad g s c)) = true
      · rw [if_pos hb]
        exact sd_skip (p := false) (TD.to (td_notInOwn (i := 3) (d := boolsL (sets.map fun s => lawBad g s c)) rfl hu (ec_boolsL.shaped (by decide) _) ((ec_list ec_boolsL).shaped (by decide) _) (ev 5)) (by rw [ea, hb]; rfl)) (sd_nil ⟨_, _, _, rfl⟩)
      · rw [if_neg hb]
        refine sd_yes (p := true) (TD.to (td_notInOwn (i := 3) (d := boolsL (sets.map fun s => lawBad g s c)) rfl hu (ec_boolsL.shaped (by decide) _) ((ec_list ec_boolsL).shaped (by decide) _) (ev 5)) (by rw [ea, Bool.eq_false_iff.mpr hb]; rfl)) ?_
        refine sd_append (i := 3) (d := boolsL (sets.map fun s => lawBad g s c)) rfl (by rw [List.length_map]; omega) (ev 5) (sd_nil (sd_nil ⟨.val (intsT g), .val (boolsL (sets.map fun s => lawBad g s c)), x6, ?_⟩))
        rw [List.map_append]; rfl
  · rintro _ ⟨x4, x5, x6, rfl⟩
    rw [List.length_map, List.take_length]
    exact sd_freeze (i := 3) rfl (sd_ret (ev 3) rfl)
end
end C9
set_option Elab.async false
set_option linter.all false
set_option maxRecDepth 100000
set_option maxHeartbeats 2000000
namespace C9
open PySem PySem.Spec PyProof.Rows L2 LamX
theorem sets_ne : ∀ n ≤ 5, ∀ k ≤ 5, everySet n k ≠ [] := by decide +kernel
theorem drop_ne : ∀ n ≤ 5, ∀ g ∈ (everySet n n).drop 1, g ≠ [] := by decide +kernel
theorem num_enum (sets : List (List Nat)) : PyData.list (numD (sets.map intsT)) = entL (enum sets) := by
  unfold numD entL enum
  rw [List.length_map, List.zip_map_right, List.map_map]
  rfl
theorem enum_len (sets : List (List Nat)) : (enum sets).length = sets.length := by
  unfold enum
  rw [List.length_zip, List.length_range, Nat.min_self]
theorem enum_lt (sets : List (List Nat)) : ∀ e ∈ enum sets, e.1 < sets.length := fun e h => by
  unfold enum at h
  exact List.mem_range.mp (List.of_mem_zip h).1
theorem optTree_none {o : Option Tree} (h : isNone (optTree o) = true) : o = none := by
  cases o with
  | none => rfl
  | some t => rw [show optTree (some t) = treeD t from rfl, treeD_some] at h; cases h
section
variable {P : Program} {w : World} {K : PySem.W.Frag} {mg : Str → Option Value} {base : Heap}
def R_least (ds : List PyData) (d : PyData) : Prop := ∃ n m x c dp t, 1 ≤ n ∧ n ≤ 5 ∧ m ≤ n ∧ FD x c ∧ leastTree n m c = some (dp, t) ∧ ds = [natD n, natD m, x] ∧ d = .tuple [natD dp, treeD t]
theorem w_least_tree (T : Txt mg) (M : Fn K mg "least_tree" s_least_tree ["number", "most", "faint"]) (D0 : Def P w K mg base 3 "need_numbers" 2 R_need_numbers) (D00 : Def P w K mg base 2 "need_faint" 1 R_need_faint) (D1 : Def P w K mg base 1 "every_set" 2 R_every_set) (D2 : Def P w K mg base 2 "unlike_glasses" 3 R_unlike) (D3 : Def P w K mg base 6 "tree_within" 3 (R_tree 5)) :
    Def P w K mg base 7 "least_tree" 3 R_least := by
  refine def_fn 6 M sc_least_tree (fun ds d ⟨_, _, _, _, _, _, _, _, _, _, _, e, _⟩ => by rw [e]; rfl) ?_
  rintro f cdv A outer s H E _ _ ⟨n, m, x, c, dp, t, h1, h2, h3, hx, hb, rfl, rfl⟩ hG hr nd
  show SD _ [.val (natD n), .val (natD m), .val x, .no, .no, .no, .no] _ _
  have hlen := (bnd_sets n h2 m (by omega)).2
  unfold leastTree at hb
  dsimp only at hb
  obtain ⟨_, hdp, hf, hno⟩ := findUp_spec hb
  refine sd_expr (ed_fn 6 D0 hr hG (ad_cons (ev 0) (ad_cons (ev 1) ad_nil)) ⟨n, m, h1, h2, h3, rfl, rfl⟩) ?_
  refine sd_expr (ed_fn 6 D00 hr hG (ad_cons (ev 2) ad_nil) ⟨x, c, hx, rfl, rfl⟩) ?_
  refine sd_set (i := 3) (d := setsL (everySet n m)) (ed_fn 6 D1 hr hG (ad_cons (ev 0) (ad_cons (ev 1) ad_nil)) ⟨n, m, h2, by omega, rfl, rfl⟩) ?_
  refine sd_set (i := 4) (d := gtL (glassesOf n (everySet n m) c)) (ed_fn 6 D2 hr hG (ad_cons (ev 0) (ad_cons (ev 3) (ad_cons (ev 2) ad_nil))) ⟨n, everySet n m, x, c, h2, by omega, hx, rfl, rfl⟩) ?_
  refine sd_set (i := 5) (d := natD 0) ed_int ?_
  have hblk : enum (everySet n m) ≠ [] := fun z => by
    have := enum_len (everySet n m)
    rw [z] at this
    exact sets_ne n h2 m (by omega) (List.eq_nil_of_length_eq_zero this.symm)
  have hR : ∀ k ≤ dp, R_tree 5 [gtL (glassesOf n (everySet n m) c), entL (enum (everySet n m)), natD k] (optTree (within (glassesOf n (everySet n m) c) k (enum (everySet n m)))) := fun k hk =>
    ⟨(everySet n m).length, _, _, k, Nat.le_trans (glassesOf_len h2) (by decide), glassesOf_told, hblk, by rw [enum_len]; omega, enum_lt _, by omega, by decide, rfl, rfl⟩
  refine sd_set (i := 6) (d := optTree (within (glassesOf n (everySet n m) c) 0 (enum (everySet n m)))) (ed_fn 6 D3 hr hG (ad_cons (ev 4) (ad_cons (ED.to (LD.ed (ld_listEnum (ev 3) T.list T.enumerate)) (num_enum _)) (ad_cons (ev 5) ad_nil))) (hR 0 (Nat.zero_le _))) ?_
  refine sd_while (fun δ => ∃ k, k ≤ dp ∧ δ = [.val (natD n), .val (natD m), .val x, .val (setsL (everySet n m)), .val (gtL (glassesOf n (everySet n m) c)), .val (natD k), .val (optTree (within (glassesOf n (everySet n m) c) k (enum (everySet n m))))]) (mu9 5) (none9 6) ⟨0, Nat.zero_le _, rfl⟩ ?_ ?_ ?_
  · rintro _ ⟨k, hk, rfl⟩
    exact TD.to (CD.td (cd_isN (ev 6))) rfl
  · rintro _ ⟨k, hk, rfl⟩ ht
    have hnone := optTree_none ht
    have hlt : k < dp := by
      rcases Nat.lt_or_eq_of_le hk with z | z
      · exact z
      · rw [z] at hnone; rw [hnone] at hf; cases hf
    refine sd_set (i := 5) (d := natD (k + 1)) (ED.to (ed_add (ev 5) ed_int) ?_) ?_
    · unfold natD; congr 1
    · refine sd_set (i := 6) (d := optTree (within (glassesOf n (everySet n m) c) (k + 1) (enum (everySet n m)))) (ed_fn 6 D3 hr hG (ad_cons (ev 4) (ad_cons (ED.to (LD.ed (ld_listEnum (ev 3) T.list T.enumerate)) (num_enum _)) (ad_cons (ev 5) ad_nil))) (hR (k + 1) (by omega))) (sd_nil ⟨⟨k + 1, by omega, rfl⟩, ?_⟩)
      show 10 - (((k + 1 : Nat) : Int)).toNat < 10 - ((k : Int)).toNat
      omega
  · rintro _ ⟨k, hk, rfl⟩ ht
    have hkd : k = dp := by
      rcases Nat.lt_or_eq_of_le hk with z | z
      · have := hno k (Nat.zero_le _) z
        rw [show none9 6 _ = isNone (optTree (within (glassesOf n (everySet n m) c) k (enum (everySet n m)))) from rfl, this] at ht
        cases ht
      · exact z
    subst hkd
    exact sd_ret (ed_tup (ad_cons (ev 5) (ad_cons (ev 6) ad_nil)) (by show 2 ≤ 100000; decide)) (by rw [hf]; rfl)
def R_depth (ds : List PyData) (d : PyData) : Prop := ∃ n m x c dp t, 1 ≤ n ∧ n ≤ 5 ∧ m ≤ n ∧ FD x c ∧ leastTree n m c = some (dp, t) ∧ ds = [natD n, natD m, x] ∧ d = natD dp
theorem w_fewest_in_turn (T : Txt mg) (M : Fn K mg "fewest_in_turn" s_fewest_in_turn ["number", "most", "faint"]) (D1 : Def P w K mg base 7 "least_tree" 3 R_least) : Def P w K mg base 8 "fewest_in_turn" 3 R_depth := by
  refine def_fn 7 M sc_fewest_in_turn (fun ds d ⟨_, _, _, _, _, _, _, _, _, _, _, e, _⟩ => by rw [e]; rfl) ?_
  rintro f cdv A outer s H E _ _ ⟨n, m, x, c, dp, t, h1, h2, h3, hx, hb, rfl, rfl⟩ hG hr nd
  show SD _ [.val (natD n), .val (natD m), .val x] _ _
  exact sd_ret (ed_ixN (i := 0) (j := 0) (ds := [natD dp, treeD t]) (.inr rfl) rfl rfl (ed_fn 7 D1 hr hG (ad_cons (ev 0) (ad_cons (ev 1) (ad_cons (ev 2) ad_nil))) ⟨n, m, x, c, dp, t, h1, h2, h3, hx, hb, rfl, rfl⟩) ed_int) rfl
def R_turn (ds : List PyData) (d : PyData) : Prop := ∃ n m x c dp t, 1 ≤ n ∧ n ≤ 5 ∧ m ≤ n ∧ FD x c ∧ leastTree n m c = some (dp, t) ∧ ds = [natD n, natD m, x] ∧ d = treeD t
theorem w_turn_tree (T : Txt mg) (M : Fn K mg "turn_tree" s_turn_tree ["number", "most", "faint"]) (D1 : Def P w K mg base 7 "least_tree" 3 R_least) : Def P w K mg base 8 "turn_tree" 3 R_turn := by
  refine def_fn 7 M sc_turn_tree (fun ds d ⟨_, _, _, _, _, _, _, _, _, _, _, e, _⟩ => by rw [e]; rfl) ?_
  rintro f cdv A outer s H E _ _ ⟨n, m, x, c, dp, t, h1, h2, h3, hx, hb, rfl, rfl⟩ hG hr nd
  show SD _ [.val (natD n), .val (natD m), .val x] _ _
  exact sd_ret (ed_ixN (i := 1) (j := 1) (ds := [natD dp, treeD t]) (.inr rfl) rfl rfl (ed_fn 7 D1 hr hG (ad_cons (ev 0) (ad_cons (ev 1) (ad_cons (ev 2) ad_nil))) ⟨n, m, x, c, dp, t, h1, h2, h3, hx, hb, rfl, rfl⟩) ed_int) rfl
end
end C9
set_option Elab.async false
set_option linter.all false
set_option maxRecDepth 100000
set_option maxHeartbeats 2000000
namespace C9
open PySem PySem.Spec PyProof.Rows L2 LamX
section
variable {P : Program} {w : World} {K : PySem.W.Frag} {mg : Str → Option Value} {base : Heap}
def R_right (lim : Nat) (ds : List PyData) (d : PyData) : Prop := ∃ t sets n x c left, n ≤ 5 ∧ FD x c ∧ sets.length ≤ 1000 ∧ (∀ s ∈ sets, s ∈ everySet n n) ∧ treeRight n c t sets left = true ∧ left ≤ lim ∧ lim ≤ 10 ∧ ds = [treeD t, setsL sets, natD n, x, natD left] ∧ d = .bool true
theorem w_right_step (T : Txt mg) (M : Fn K mg "_law_tree_right" s__law_tree_right ["_law_tree", "_law_sets_here", "_law_number", "_law_faint", "_law_left"]) (D1 : Def P w K mg base 5 "_law_sets" 2 R__law_sets) (D2 : Def P w K mg base 6 "_law_are_glasses" 2 R__law_are_glasses) (D3 : Def P w K mg base 4 "answers" 3 R_answers) (D4 : Def P w K mg base 1 "_law_bad" 3 R__law_bad)
    (lim : Nat) (D5 : ∀ l, lim = l + 1 → Def P w K mg base (l + 7) "_law_tree_right" 5 (R_right l)) : Def P w K mg base (lim + 7) "_law_tree_right" 5 (R_right lim) := by
  refine def_fn (lim + 6) M sc__law_tree_right (fun ds d ⟨_, _, _, _, _, _, _, _, _, _, _, _, _, e, _⟩ => by rw [e]; rfl) ?_
  rintro f cdv A outer s H E _ _ ⟨t, sets, n, x, c, left, hn, hx, hz, hs, ht, hle, hlim, rfl, rfl⟩ hG hr nd
  show SD _ [.val (treeD t), .val (setsL sets), .val (natD n), .val x, .val (natD left), .no, .no, .no, .no, .no] _ _
  have hu := un64 hr
  have hlen := (bnd_sets n hn n hn).2
  cases t with
  | are sp =>
    have ht' := Bool.and_eq_true_iff.mp (show (decide (sets.length < 2) && (if sets = [] then everySet n n else sets).contains sp) = true from ht)
    have hlt := of_decide_eq_true ht'.1
    refine sd_skip (p := false) (TD.to (td_or3 (td_not (td_v (ed_isi (ev 0) rfl rfl T.isinstance T.tuple))) (fun _ => CD.td (cd_notIn (x := .int 2) (ds := [.int 2, .int 4]) (.inr rfl) rfl rfl rfl (ed_len (ds := [.str "are", intsT sp]) (.inr rfl) (ev 0) T.len) (ed_tup (ad_cons ed_int (ad_cons ed_int ad_nil)) (by show 2 ≤ 100000; decide))))
      (fun _ _ => td_not (td_v (ed_isi (ed_ixN (i := 0) (j := 0) (ds := [.str "are", intsT sp]) (.inr rfl) rfl rfl (ev 0) ed_int) rfl rfl T.isinstance T.str)))) rfl) ?_
    refine sd_yes (p := true) (TD.to (CD.td (cd_eqI (ed_len (ds := [.str "are", intsT sp]) (.inr rfl) (ev 0) T.len) ed_int)) rfl) ?_
    have hdue : ∀ l ∈ (if sets = [] then everySet n n else sets), l ∈ everySet 5 5 := fun l hl => by
      split at hl
      · exact all5_in n hn n hn l hl
      · exact all5_in n hn n hn l (hs l hl)
    have hdl : (if sets = [] then everySet n n else sets).length ≤ 1000 := by
      split
      · omega
      · exact hz
    refine sd_set (i := 5) (d := setsL (if sets = [] then everySet n n else sets)) (ed_if (CD.td (cd_neE (x := sets) (y := []) hr ec_setsL (ev 1) (ed_lst ad_nil (by decide)))) (fun h => ?_) (fun h => ?_)) ?_
    · rw [if_neg (fun z => by rw [decide_eq_true z] at h; cases h)]
      exact ev 1
    · rw [if_pos (by
        by_cases z : sets = []
        · exact z
        · rw [decide_eq_false z] at h; cases h)]
      exact ed_fn (lim + 6) D1 hr hG (ad_cons (ev 2) (ad_cons (ev 2) ad_nil)) ⟨n, n, hn, hn, rfl, rfl⟩ (by omega)
    generalize (if sets = [] then everySet n n else sets) = due at ht' hdue hdl ⊢
    show SD _ [.val (treeD (.are sp)), .val (setsL sets), .val (natD n), .val x, .val (natD left), .val (setsL due), .no, .no, .no, .no] _ _
    have hin : sp ∈ due := List.contains_iff_mem.mp ht'.2
    have em : (due.map fun l => PyData.str (intsT l).shown) = (due.map fun l => (intsT l).shown).map PyData.str := by rw [List.map_map]; rfl
    refine sd_ret (ed_and3 (CD.ed (cd_eqS (x := .str "are") (y := .str "are") rfl rfl rfl (ed_ixN (i := 0) (j := 0) (ds := [.str "are", intsT sp]) (.inr rfl) rfl rfl (ev 0) ed_int) ed_str)) (fun _ => CD.ed (cd_lt (ed_len (.inl rfl) (ev 1) T.len) ed_int)) (fun _ _ => CD.ed (cd_in (ds := due.map fun l => PyData.str (intsT l).shown) (.inl rfl) rfl (by rw [em]; exact flat_strs _) rfl
      (ed_repr hG hu (ed_ixN (i := 1) (j := 1) (ds := [.str "are", intsT sp]) (.inr rfl) rfl rfl (ev 0) ed_int) (hdue sp hin) T.repr) (LD.ed (ld_lc 6 n__law_tree_right (defScope s__law_tree_right) [("_law_some", 6)] due intsT (fun l => .str (intsT l).shown) (id_list (ev 5)) (by omega) (fun l hl s H C cl fp => ed_repr hG hu (ev 6) (hdue l hl) T.repr)))))) ?_
    rw [em, inV_mem (x := (intsT sp).shown) (List.mem_map.mpr ⟨sp, hin, rfl⟩)]
    have z1 : decide ((((sets.map intsT).length : Nat) : Int) < 2) = true := decide_eq_true (by rw [List.length_map]; omega)
    have z2 : decide (flat (.str "are") = flat (.str "are")) = true := decide_eq_true rfl
    rw [z1, z2]
    rfl
  | node g ta tb =>
    cases left with
    | zero => cases ht
    | succ l =>
      have ht' : (((((everySet n n).drop 1).contains g && sets.all (fun s => isBad g s c == lawBad g s c)) && treeRight n c ta (sets.filter fun s => isBad g s c) l) && treeRight n c tb (sets.filter fun s => !isBad g s c) l) = true := ht
      obtain ⟨ht1, htb⟩ := Bool.and_eq_true_iff.mp ht'
      obtain ⟨ht2, hta⟩ := Bool.and_eq_true_iff.mp ht1
      obtain ⟨hgc, hall⟩ := Bool.and_eq_true_iff.mp ht2
      have hgd : g ∈ (everySet n n).drop 1 := List.contains_iff_mem.mp hgc
      have hgn : g ≠ [] := drop_ne n hn g hgd
      have hgs : g ∈ everySet n n := List.mem_of_mem_drop hgd
      have hg5 : g ∈ everySet 5 5 := all5_in n hn n hn g hgs
      have heq : ∀ s ∈ sets, lawBad g s c = isBad g s c := fun s h => (eq_of_beq (List.all_eq_true.mp hall s h)).symm
      cases lim with
      | zero => exact absurd hle (Nat.not_succ_le_zero l)
      | succ lim =>
        have D6 := D5 lim rfl
        refine sd_skip (p := false) (TD.to (td_or3 (td_not (td_v (ed_isi (ev 0) rfl rfl T.isinstance T.tuple))) (fun _ => CD.td (cd_notIn (x := .int 4) (ds := [.int 2, .int 4]) (.inr rfl) rfl rfl rfl (ed_len (ds := [.str "glass", intsT g, treeD ta, treeD tb]) (.inr rfl) (ev 0) T.len) (ed_tup (ad_cons ed_int (ad_cons ed_int ad_nil)) (by show 2 ≤ 100000; decide))))
          (fun _ _ => td_not (td_v (ed_isi (ed_ixN (i := 0) (j := 0) (ds := [.str "glass", intsT g, treeD ta, treeD tb]) (.inr rfl) rfl rfl (ev 0) ed_int) rfl rfl T.isinstance T.str)))) rfl) ?_
        refine sd_skip (p := false) (TD.to (CD.td (cd_eqI (ed_len (ds := [.str "glass", intsT g, treeD ta, treeD tb]) (.inr rfl) (ev 0) T.len) ed_int)) rfl) ?_
        refine sd_skip (td_or3 (CD.td (cd_lt (ev 4) ed_int)) (fun _ => CD.td (cd_neS (x := .str "glass") (y := .str "glass") rfl rfl rfl (ed_ixN (i := 0) (j := 0) (ds := [.str "glass", intsT g, treeD ta, treeD tb]) (.inr rfl) rfl rfl (ev 0) ed_int) ed_str))
          (fun _ _ => td_not (td_v (ed_fn (lim + 1 + 6) D2 hr hG (ad_cons (ed_tup (ad_cons (ed_ixN (i := 1) (j := 1) (ds := [.str "glass", intsT g, treeD ta, treeD tb]) (.inr rfl) rfl rfl (ev 0) ed_int) ad_nil) (by show 1 ≤ 100000; decide)) (ad_cons (ev 2) ad_nil)) ⟨[g], n, by show 1 ≤ 1000; decide, hn, fun g' h => by rw [List.mem_singleton.mp h]; exact ⟨hgs, hgn⟩, rfl, rfl⟩ (by omega))))) ?_ ?_
        · refine sd_parL (i := 7) (j := 8) (d1 := []) (d2 := []) (ld_lst ad_nil (by decide)) (ld_lst ad_nil (by decide)) ?_
          refine sd_for (j := 6) (id_list (ev 1)) (fun k δ => ∃ x5 x6 x9, δ = [.val (treeD (.node g ta tb)), .val (setsL sets), .val (natD n), .val x, .val (natD (l + 1)), x5, x6, .own (((sets.take k).filter fun s => isBad g s c).map intsT), .own (((sets.take k).filter fun s => !isBad g s c).map intsT), x9]) ⟨_, _, _, rfl⟩ ?_ ?_
          · rintro k d _ hk ⟨x5, x6, x9, rfl⟩
            rw [List.getElem?_map] at hk
            cases hq : sets[k]? with
            | none => rw [hq] at hk; cases hk
            | some sp =>
              rw [hq] at hk
              cases hk
              have hkl : k < sets.length := (List.getElem?_eq_some_iff.mp hq).1
              have hsp := List.mem_of_getElem? hq
              have l1 : ((sets.take k).filter fun s => isBad g s c).length ≤ 1000 := Nat.le_trans (List.length_filter_le _ _) (by rw [List.length_take]; omega)
              have l2 : ((sets.take k).filter fun s => !isBad g s c).length ≤ 1000 := Nat.le_trans (List.length_filter_le _ _) (by rw [List.length_take]; omega)
              have ek : sets.take (k + 1) = sets.take k ++ [sp] := by rw [List.take_succ, hq]; rfl
              rw [ek, List.filter_append, List.filter_append]
              generalize (sets.take k).filter (fun s => isBad g s c) = bad at l1 ⊢
              generalize (sets.take k).filter (fun s => !isBad g s c) = good at l2 ⊢
              show SD _ [.val (treeD (.node g ta tb)), .val (setsL sets), .val (natD n), .val x, .val (natD (l + 1)), x5, .val (intsT sp), .own (bad.map intsT), .own (good.map intsT), x9] _ _
              refine sd_set (i := 9) (d := boolsT [isBad g sp c]) (ed_fn (lim + 1 + 6) D3 hr hG (ad_cons (ed_tup (ad_cons (ed_ixN (i := 1) (j := 1) (ds := [.str "glass", intsT g, treeD ta, treeD tb]) (.inr rfl) rfl rfl (ev 0) ed_int) ad_nil) (by show 1 ≤ 100000; decide)) (ad_cons (ev 6) (ad_cons (ev 3) ad_nil))) ⟨[g], sp, x, c, ⟨by show 1 ≤ 1000; decide, fun g' h => by rw [List.mem_singleton.mp h]; exact ⟨hgn, hg5, by simp⟩⟩, all5_in n hn n hn sp (hs sp hsp), hx, rfl, rfl⟩ (by omega)) ?_
              refine sd_skip (p := false) (TD.to (CD.td (cd_neE (x := [isBad g sp c]) (y := [lawBad g sp c]) hr ec_boolsT (ev 9) (ed_tup (ad_cons (ed_fn (lim + 1 + 6) D4 hr hG (ad_cons (ed_ixN (i := 1) (j := 1) (ds := [.str "glass", intsT g, treeD ta, treeD tb]) (.inr rfl) rfl rfl (ev 0) ed_int) (ad_cons (ev 6) (ad_cons (ev 3) ad_nil))) ⟨g, sp, x, c, all5_len g hg5, hx, rfl, rfl⟩ (by omega)) ad_nil) (by show 1 ≤ 100000; decide)))) (by rw [heq sp hsp, decide_eq_true rfl]; rfl)) ?_
              show SD _ [.val (treeD (.node g ta tb)), .val (setsL sets), .val (natD n), .val x, .val (natD (l + 1)), x5, .val (intsT sp), .own (bad.map intsT), .own (good.map intsT), .val (boolsT [isBad g sp c])] _ _
              refine sd_if (td_v (ed_ixN (i := 0) (j := 0) (ds := [.bool (isBad g sp c)]) (.inr rfl) rfl rfl (ev 9) ed_int)) (fun hp => ?_) (fun hp => ?_)
              · refine sd_append (i := 7) (d := intsT sp) rfl (by rw [List.length_map]; omega) (ev 6) (sd_nil (sd_nil ⟨x5, .val (intsT sp), .val (boolsT [isBad g sp c]), ?_⟩))
                simp [hp]
              · refine sd_append (i := 8) (d := intsT sp) rfl (by rw [List.length_map]; omega) (ev 6) (sd_nil (sd_nil ⟨x5, .val (intsT sp), .val (boolsT [isBad g sp c]), ?_⟩))
                simp [hp]
          · rintro _ ⟨x5, x6, x9, rfl⟩
            rw [List.length_map, List.take_length]
            refine sd_freeze (i := 7) rfl (sd_freeze (i := 8) rfl ?_)
            show SD _ [.val (treeD (.node g ta tb)), .val (setsL sets), .val (natD n), .val x, .val (natD (l + 1)), x5, x6, .val (setsL (sets.filter fun s => isBad g s c)), .val (setsL (sets.filter fun s => !isBad g s c)), x9] _ _
            refine sd_skip (p := false) (td_not (p := true) (td_v (ed_fn (lim + 1 + 6) D6 hr hG (ad_cons (ed_ixN (i := 2) (j := 2) (ds := [.str "glass", intsT g, treeD ta, treeD tb]) (.inr rfl) rfl rfl (ev 0) ed_int) (ad_cons (ev 7) (ad_cons (ev 2) (ad_cons (ev 3) (ad_cons (d := natD l) (ED.to (ed_sub (ev 4) ed_int) (by unfold natD; congr 1; omega)) ad_nil)))))
              ⟨ta, _, n, x, c, l, hn, hx, Nat.le_trans (List.length_filter_le _ _) hz, fun s h => hs s (List.mem_filter.mp h).1, hta, by omega, by omega, rfl, rfl⟩ (by omega)))) ?_
            exact sd_ret (ed_fn (lim + 1 + 6) D6 hr hG (ad_cons (ed_ixN (i := 3) (j := 3) (ds := [.str "glass", intsT g, treeD ta, treeD tb]) (.inr rfl) rfl rfl (ev 0) ed_int) (ad_cons (ev 8) (ad_cons (ev 2) (ad_cons (ev 3) (ad_cons (d := natD l) (ED.to (ed_sub (ev 4) ed_int) (by unfold natD; congr 1; omega)) ad_nil)))))
              ⟨tb, _, n, x, c, l, hn, hx, Nat.le_trans (List.length_filter_le _ _) hz, fun s h => hs s (List.mem_filter.mp h).1, htb, by omega, by omega, rfl, rfl⟩ (by omega)) rfl
        · rw [decide_eq_false (show ¬ ((l + 1 : Nat) : Int) < 1 by omega), decide_eq_true rfl]
          rfl
theorem w__law_tree_right (T : Txt mg) (M : Fn K mg "_law_tree_right" s__law_tree_right ["_law_tree", "_law_sets_here", "_law_number", "_law_faint", "_law_left"]) (D1 : Def P w K mg base 5 "_law_sets" 2 R__law_sets) (D2 : Def P w K mg base 6 "_law_are_glasses" 2 R__law_are_glasses) (D3 : Def P w K mg base 4 "answers" 3 R_answers) (D4 : Def P w K mg base 1 "_law_bad" 3 R__law_bad) :
    ∀ lim, Def P w K mg base (lim + 7) "_law_tree_right" 5 (R_right lim)
  | 0 => w_right_step T M D1 D2 D3 D4 0 fun l h => by cases h
  | l + 1 => w_right_step T M D1 D2 D3 D4 (l + 1) fun l' h => by cases h; exact w__law_tree_right T M D1 D2 D3 D4 l
end
end C9
set_option Elab.async false
set_option linter.all false
set_option maxRecDepth 100000
set_option maxHeartbeats 2000000
namespace C9
open PySem PySem.Spec PyProof.Rows L2 LamX
/-- what the one look over all cases tells of a case -/
structure Facts (n m : Nat) (c : Option Nat) (many : Nat) (gs : List (List Nat)) (d : Nat) (t : Tree) : Prop where
  best : best n m c = some (many, gs)
  tree : leastTree n m c = some (d, t)
  len : gs.length = many
  le : many ≤ n
  gl : ∀ g ∈ gs, g ∈ (everySet n n).drop 1
  nd : noDups ((everySet n m).map fun s => toldBy gs s c) = true
  told : ∀ s ∈ everySet n m, toldBy gs s c = gs.map fun g => lawBad g s c
  fit : ∀ s ∈ everySet n m, ((everySet n m).filter fun s' => decide (toldBy gs s' c = toldBy gs s c)) = [s]
  can : (many == 0 || !lawCan (many - 1) (columns n (everySet n m) c) (blocks0 (everySet n m).length)) = true
  lo : (c.isSome || decide (2 ≤ m) || (decide (n * m < 2 ^ many) && (many == 0 || decide (2 ^ (many - 1) ≤ n)))) = true
  dle : d ≤ many
  turn : (d == 0 || !canInTurn (columns n (everySet n m) c) (d - 1) (List.range (everySet n m).length)) = true
  right : treeRight n c t (everySet n m) d = true
theorem fine_get {n m : Nat} {c : Option Nat} (h : fine n m c = true) : ∃ many gs d t, Facts n m c many gs d t := by
  unfold fine at h
  dsimp only at h
  split at h
  · rename_i many gs d t e1 e2
    simp only [Bool.and_eq_true] at h
    obtain ⟨⟨⟨⟨⟨⟨⟨⟨⟨h1, h2⟩, h3⟩, h4⟩, h5⟩, h6⟩, h7⟩, h8⟩, h9⟩, h10⟩ := h
    refine ⟨many, gs, d, t, e1, e2, of_decide_eq_true h1, of_decide_eq_true h2, fun g hg => List.contains_iff_mem.mp (List.all_eq_true.mp h3 g hg), h4, fun s hs => ?_, fun s hs => ?_, h6, h7, of_decide_eq_true h8, h9, h10⟩
    · exact of_decide_eq_true (Bool.and_eq_true_iff.mp (List.all_eq_true.mp h5 s hs)).1
    · exact of_decide_eq_true (Bool.and_eq_true_iff.mp (List.all_eq_true.mp h5 s hs)).2
  · cases h
theorem facts_of {n m : Nat} {c : Option Nat} (h : (n, m, c) ∈ cases) : ∃ many gs d t, Facts n m c many gs d t := fine_get (List.all_eq_true.mp fine_all _ h)
theorem cases_ok : ∀ q ∈ cases, 1 ≤ q.1 ∧ q.1 ≤ 5 ∧ q.2.1 ≤ q.1 := by decide +kernel
theorem Facts.gok {n m : Nat} {c : Option Nat} {many : Nat} {gs : List (List Nat)} {d : Nat} {t : Tree} (F : Facts n m c many gs d t) (hn : n ≤ 5) (o : Option Nat) (ho : ∀ N, o = some N → N = n) : GsOk gs o := by
  refine ⟨by rw [F.len]; have := F.le; omega, fun g hg => ?_⟩
  have q := F.gl g hg
  refine ⟨drop_ne n hn g q, all5_in n hn n hn g (List.mem_of_mem_drop q), fun N hN x hx => ?_⟩
  rw [ho N hN]
  exact all5_lt n hn n hn g (List.mem_of_mem_drop q) x hx
theorem cols_ok {n : Nat} (hn : n ≤ 5) {sets : List (List Nat)} {c : Option Nat} : (columns n sets c).length ≤ 1000 ∧ ∀ r ∈ columns n sets c, r.length = sets.length := by
  refine ⟨?_, col_told sets c _ [] (fun _ h => by cases h)⟩
  have h1 := col_len sets c ((everySet n n).drop 1) []
  have h2 := (bnd_sets n hn n hn).2
  rw [List.length_drop, List.length_nil] at h1
  exact Nat.le_trans h1 (by omega)
section
variable {P : Program} {w : World} {K : PySem.W.Frag} {mg : Str → Option Value} {base : Heap}
def R_row (ds : List PyData) (d : PyData) : Prop := ∃ n m x c, (n, m, c) ∈ cases ∧ FD x c ∧ ds = [natD n, natD m, x, setsL (everySet n m), colsL (columns n (everySet n m) c)] ∧ d = .bool true
theorem w__law_row_right (T : Txt mg) (M : Fn K mg "_law_row_right" s__law_row_right ["_law_number", "_law_most", "_law_faint", "_law_sets_here", "_law_columns_here"]) (D1 : Def P w K mg base 10 "fewest_glasses" 3 R_fewest) (D2 : Def P w K mg base 9 "some_glasses" 3 R_some) (D3 : Def P w K mg base 1 "_law_integer" 1 R_is_integer)
    (D4 : Def P w K mg base 6 "_law_are_glasses" 2 R__law_are_glasses) (D5 : Def P w K mg base 5 "finds" 4 R_finds) (D6 : Def P w K mg base 4 "alike_pair" 4 R_alike_pair) (D7 : Def P w K mg base 4 "answers" 3 R_answers) (D8 : Def P w K mg base 2 "_law_answers" 3 R__law_answers) (D9 : Def P w K mg base 4 "fitting" 5 R_fitting) (D10 : Def P w K mg base 7 "_law_can" 3 (R_can 5)) :
    Def P w K mg base 11 "_law_row_right" 5 R_row := by
  refine def_fn 10 M sc__law_row_right (fun ds d ⟨_, _, _, _, _, _, e, _⟩ => by rw [e]; rfl) ?_
  rintro f cdv A outer s H E _ _ ⟨n, m, x, c, hc, hx, rfl, rfl⟩ hG hr nd
  show SD _ [.val (natD n), .val (natD m), .val x, .val (setsL (everySet n m)), .val (colsL (columns n (everySet n m) c)), .no, .no, .no, .no, .no] _ _
  obtain ⟨h1, h2, h3⟩ := cases_ok _ hc
  obtain ⟨many, gs, d, t, F⟩ := facts_of hc
  dsimp only at h1 h2 h3
  have hlen := (bnd_sets n h2 m (by omega)).2
  have hmany : gs.length = many := F.len
  have hmn := F.le
  refine sd_par (i := 5) (j := 6) (d1 := natD gs.length) (d2 := glassesT gs) (ed_fn 10 D1 hr hG (ad_cons (ev 0) (ad_cons (ev 1) (ad_cons (ev 2) ad_nil))) ⟨n, m, x, c, many, gs, h1, h2, h3, hx, F.best, rfl, rfl⟩) (ed_fn 10 D2 hr hG (ad_cons (ev 0) (ad_cons (ev 1) (ad_cons (ev 2) ad_nil))) ⟨n, m, x, c, many, gs, h1, h2, h3, hx, F.best, rfl, rfl⟩) ?_
  rw [hmany]
  show SD _ [.val (natD n), .val (natD m), .val x, .val (setsL (everySet n m)), .val (colsL (columns n (everySet n m) c)), .val (natD many), .val (glassesT gs), .no, .no, .no] _ _
  refine sd_skip (td_w (wd_or (td_not (td_fn 10 D3 hr hG (ad_cons (ev 5) ad_nil) ⟨many, rfl, rfl⟩)) fun _ => wd_or (td_not (td_fn 10 D4 hr hG (ad_cons (ev 6) (ad_cons (ev 0) ad_nil)) ⟨gs, n, by omega, h2, fun g hg => ⟨List.mem_of_mem_drop (F.gl g hg), drop_ne n h2 g (F.gl g hg)⟩, rfl, rfl⟩))
    fun _ => wd_or (CD.td (cd_neI (ed_len (.inr rfl) (ev 6) T.len) (ev 5))) fun _ => wd_or1 (CD.td (cd_gt (ev 5) (ev 0))))) ?_ ?_
  · refine sd_skip (p := false) (TD.to (td_or2 (CD.td (cd_notB (ed_fn 10 D5 hr hG (ad_cons (ev 0) (ad_cons (ev 1) (ad_cons (ev 6) (ad_cons (ev 2) ad_nil)))) ⟨n, m, gs, x, c, h1, h2, h3, F.gok h2 _ (fun N h => by cases h; rfl), hx, F.nd, rfl, rfl⟩) ed_bl)) fun _ => CD.td (cd_notN (ed_fn 10 D6 hr hG (ad_cons (ev 0) (ad_cons (ev 1) (ad_cons (ev 6) (ad_cons (ev 2) ad_nil)))) ⟨n, m, gs, x, c, h1, h2, h3, F.gok h2 _ (fun N h => by cases h; rfl), hx, F.nd, rfl, rfl⟩))) rfl) ?_
    refine sd_for (j := 7) (id_list (ev 3)) (fun k δ => ∃ x7 x8, δ = [.val (natD n), .val (natD m), .val x, .val (setsL (everySet n m)), .val (colsL (columns n (everySet n m) c)), .val (natD many), .val (glassesT gs), x7, x8, .no]) ⟨_, _, rfl⟩ ?_ ?_
    · rintro k dd _ hk ⟨x7, x8, rfl⟩
      rw [List.getElem?_map] at hk
      cases hq : (everySet n m)[k]? with
      | none => rw [hq] at hk; cases hk
      | some sp =>
        rw [hq] at hk
        cases hk
        have hsp := List.mem_of_getElem? hq
        show SD _ [.val (natD n), .val (natD m), .val x, .val (setsL (everySet n m)), .val (colsL (columns n (everySet n m) c)), .val (natD many), .val (glassesT gs), .val (intsT sp), x8, .no] _ _
        refine sd_set (i := 8) (d := boolsT (toldBy gs sp c)) (ed_fn 10 D7 hr hG (ad_cons (ev 6) (ad_cons (ev 7) (ad_cons (ev 2) ad_nil))) ⟨gs, sp, x, c, F.gok h2 none (fun N h => by cases h), all5_in n h2 m (by omega) sp hsp, hx, rfl, rfl⟩) ?_
        have fok := F.gok h2 (some n) (fun N h => by cases h; rfl)
        refine sd_skip (td_or2 (CD.td (cd_neE (x := toldBy gs sp c) (y := gs.map fun g => lawBad g sp c) hr ec_boolsT (ev 8) (ed_fn 10 D8 hr hG (ad_cons (ev 6) (ad_cons (ev 7) (ad_cons (ev 2) ad_nil))) ⟨gs, sp, x, c, fok.1, fun g h => all5_len g (fok.2 g h).2.1, hx, rfl, rfl⟩)))
          fun _ => CD.td (cd_neE (x := (everySet n m).filter fun s' => decide (toldBy gs s' c = toldBy gs sp c)) (y := [sp]) hr ec_setsL (ed_fn 10 D9 hr hG (ad_cons (ev 0) (ad_cons (ev 1) (ad_cons (ev 6) (ad_cons (ev 2) (ad_cons (ev 8) ad_nil))))) ⟨n, m, gs, x, c, toldBy gs sp c, h1, h2, h3, fok, hx, by unfold toldBy; rw [List.length_map], rfl, rfl⟩) (ed_lst (ad_cons (ev 7) ad_nil) (by show 1 ≤ 100000; decide)))) (sd_nil ⟨_, _, rfl⟩) ?_
        rw [decide_eq_true (F.told sp hsp), decide_eq_true (F.fit sp hsp)]; rfl
    · rintro _ ⟨x7, x8, rfl⟩
      refine sd_set (i := 9) (d := blocksL (blocks0 (everySet n m).length)) (ed_if (CD.td (cd_gt (ed_len (.inl rfl) (ev 3) T.len) ed_int)) (fun h => ?_) (fun h => ?_)) ?_
      · have h' : 1 < (everySet n m).length := by
          have := of_decide_eq_true h
          rw [List.length_map] at this
          omega
        refine ED.to (ed_lst (ad_cons (LD.ed (ld_listRange (n := ((everySet n m).length : Int)) (by omega) (by omega) (ED.to (ed_len (.inl rfl) (ev 3) T.len) (by rw [List.length_map])) T.list T.range)) ad_nil) (by show 1 ≤ 100000; decide)) ?_
        unfold blocks0
        rw [if_pos h', Int.toNat_natCast]; rfl
      · have h' : ¬ 1 < (everySet n m).length := by
          have := of_decide_eq_false h
          rw [List.length_map] at this
          omega
        refine ED.to (ed_lst ad_nil (by decide)) ?_
        unfold blocks0
        rw [if_neg h']; rfl
      show SD _ [.val (natD n), .val (natD m), .val x, .val (setsL (everySet n m)), .val (colsL (columns n (everySet n m) c)), .val (natD many), .val (glassesT gs), x7, x8, .val (blocksL (blocks0 (everySet n m).length))] _ _
      have hcols := cols_ok h2 (sets := everySet n m) (c := c)
      refine sd_skip (td_and2 (CD.td (cd_gt (ev 5) ed_int)) fun hp => td_v (ed_fn 10 D10 hr hG (ad_cons (ev 9) (ad_cons (ev 4) (ad_cons (d := natD (many - 1)) (ED.to (ed_sub (ev 5) ed_int) (by have := of_decide_eq_true hp; unfold natD; congr 1; omega)) ad_nil))) ⟨(everySet n m).length, _, _, many - 1, hcols.1, hcols.2, blocks0_ok hlen, by omega, by decide, rfl, rfl⟩)) ?_ ?_
      · refine sd_skip (td_and3 (CD.td (cd_isN (ev 2))) (fun _ => CD.td (cd_lt (ev 1) ed_int)) (fun _ _ => td_or2 (CD.td (cd_le (ed_shl (i := 1) (j := (many : Int)) (by unfold CPow; exact ⟨by omega, by omega, by decide⟩) ed_int (ev 5)) (ed_mul (i := (n : Int)) (j := (m : Int)) (.inl ⟨by omega, by omega⟩) (ev 0) (ev 1))))
          (fun _ => td_and2 (CD.td (cd_gt (ev 5) ed_int)) fun hp => CD.td (cd_gt (ed_shl (i := 1) (j := ((many - 1 : Nat) : Int)) (by unfold CPow; exact ⟨by omega, by omega, by decide⟩) ed_int (ED.to (ed_sub (ev 5) ed_int) (by have := of_decide_eq_true hp; congr 1; omega))) (ev 0))))) ?_ ?_
        · refine sd_ret (CD.ed (cd_eqI (ev 5) (ed_kw 10 D1 hr hG (ev 2) (ev 1) (ev 0) ⟨n, m, x, c, many, gs, h1, h2, h3, hx, F.best, rfl, rfl⟩))) ?_
          rw [hmany, decide_eq_true rfl]
        · have lo := F.lo
          have p1 : (1 : Int) * 2 ^ ((many : Int)).toNat = ((2 ^ many : Nat) : Int) := by rw [Int.one_mul, Int.toNat_natCast, Int.natCast_pow]; rfl
          have p2 : (1 : Int) * 2 ^ (((many - 1 : Nat) : Int)).toNat = ((2 ^ (many - 1) : Nat) : Int) := by rw [Int.one_mul, Int.toNat_natCast, Int.natCast_pow]; rfl
          rw [p1, p2]
          cases hx with
          | int _ _ => rfl
          | non =>
            by_cases hm2 : 2 ≤ m
            · rw [decide_eq_false (show ¬ (m : Int) < 2 by omega)]; rfl
            · rw [decide_eq_false hm2] at lo
              obtain ⟨q1, q2⟩ := Bool.and_eq_true_iff.mp (show (decide (n * m < 2 ^ many) && (many == 0 || decide (2 ^ (many - 1) ≤ n))) = true from lo)
              have q1' := of_decide_eq_true q1
              have z1 : ¬ ((2 ^ many : Nat) : Int) ≤ (n : Int) * (m : Int) := by
                rw [← Int.natCast_mul]
                exact fun z => absurd (Int.ofNat_le.mp z) (Nat.not_le.mpr q1')
              rw [decide_eq_false z1]
              by_cases hm0 : many = 0
              · subst hm0
                rw [decide_eq_false (show ¬ (0 : Int) < ((0 : Nat) : Int) by omega)]
                simp
              · have q2' : 2 ^ (many - 1) ≤ n := by
                  rcases Bool.or_eq_true_iff.mp q2 with z | z
                  · exact absurd (eq_of_beq z) hm0
                  · exact of_decide_eq_true z
                have z2 : ¬ ((n : Int) < ((2 ^ (many - 1) : Nat) : Int)) := fun z => absurd (Int.ofNat_lt.mp z) (Nat.not_lt.mpr q2')
                rw [decide_eq_false z2]
                simp
      · have hcan := F.can
        by_cases hm0 : many = 0
        · subst hm0
          rfl
        · rcases Bool.or_eq_true_iff.mp hcan with z | z
          · exact absurd (eq_of_beq z) hm0
          · rw [Bool.not_eq_true'] at z
            rw [z, Bool.and_false]
  · have e1 : decide ((((gs.map intsT).length : Nat) : Int) = (many : Int)) = true := decide_eq_true (by rw [List.length_map]; omega)
    rw [e1, decide_eq_false (show ¬ ((n : Int) < (many : Int)) by omega)]
    rfl
end
end C9
set_option Elab.async false
set_option linter.all false
set_option maxRecDepth 100000
set_option maxHeartbeats 2000000
namespace C9
open PySem PySem.Spec PyProof.Rows L2 LamX
def deckD (ns : List Int) (d1 d2 d3 d4 : Int) : List PyData := [.list (ns.map PyData.int), .int d1, .int d2, .int d3, .int d4]
def d4Of (ds : List PyData) : Int := match ds[4]? with
  | some (PyData.int d) => d
  | _ => 0
def DkOk (ds : List PyData) : Prop := ∃ (ns : List Int) (d1 d2 d3 d4 : Int), ds = deckD ns d1 d2 d3 d4 ∧ ns.length ≤ 63 ∧ 0 ≤ d1 ∧ d1 ≤ 63 ∧ 0 ≤ d2 ∧ 0 ≤ d3 ∧ d3 ≤ 10 ^ 32 + d1 * 10 ^ 20 ∧ 0 ≤ d4
def DmD (ds : List PyData) (n : Int) : Prop := DkOk ds ∧ d4Of ds ≤ 100 ∧ 1 ≤ n ∧ n ≤ 10 ^ 20
def PtD (ds : List PyData) (n : Int) (ds' : List PyData) (r : Int) : Prop := 0 ≤ r ∧ r < n ∧ DkOk ds' ∧ d4Of ds' ≤ d4Of ds + 1
theorem pw3 {x : Int} (h0 : 0 ≤ x) (h : x < 2 ^ 128) : CPowW x 3 := by
  refine ⟨by decide, ?_⟩
  have hb : Builtin.Int.intBits x ≤ 129 := by
    unfold Builtin.Int.intBits
    split
    · omega
    · rename_i hz
      have hx : x.natAbs < 2 ^ 128 := by omega
      have hn : x.natAbs ≠ 0 := by
        intro z
        apply hz
        have : x = 0 := by omega
        subst this
        rfl
      have := (Nat.log2_lt hn).mpr hx
      omega
  have : ((Builtin.Int.intBits x : Nat) : Int) ≤ 129 := by omega
  omega
section
variable {X : Cx} {δ : List Sl}
theorem ed_ten {k : Nat} {j1 j2 : Nat} {p1 p2 p3 : Pos} (hk : k ≤ 100) : ED X δ (.BinOp (.Constant (.int 10) j1 p1) .Pow (.Constant (.int (k : Int)) j2 p2) p3) (.int ((10 : Int) ^ k)) := by
  refine ED.to (ed_powW (i := 10) (j := (k : Int)) ⟨by omega, ?_⟩ ed_int ed_int) ?_
  · have : Builtin.Int.intBits 10 = 4 := by decide +kernel
    rw [this]
    omega
  · rw [Int.toNat_natCast]
end
section
variable {P : Program} {w : World} {K : PySem.W.Frag} {mg : Str → Option Value} {base : Heap}
theorem w__law_draw (T : Txt mg) (M : Fn K mg "_law_draw" s__law_draw ["_law_deck_here", "_law_bound"]) : DefM P w K mg base 1 "_law_draw" DmD PtD := by
  obtain ⟨f, fd, F, hm, hb, _⟩ := M.ex
  refine defM_of (k := 0) F sc__law_draw hm hb ?_
  rintro cdv A outer s H E l _ n hG hr ⟨⟨ns, d1, d2, d3, d4, rfl, hns, h1, h2, h3, h4, h5, h6⟩, hd4, hn1, hn2⟩
  have nd := sc__law_draw.nd
  have hd4' : d4 ≤ 100 := hd4
  show SD _ [.oat l (deckD ns d1 d2 d3 d4), .val (.int n), .no, .no, .no] _ _
  have e32 : (10 : Int) ^ 32 = 100000000000000000000000000000000 := by decide +kernel
  have e20 : (10 : Int) ^ 20 = 100000000000000000000 := by decide +kernel
  have e18 : (10 : Int) ^ 18 = 1000000000000000000 := by decide +kernel
  have e30 : (10 : Int) ^ 30 = 1000000000000000000000000000000 := by decide +kernel
  have e35 : (10 : Int) ^ 35 = 100000000000000000000000000000000000 := by decide +kernel
  have e128 : (2 : Int) ^ 128 = 340282366920938463463374607431768211456 := by decide +kernel
  rw [e32, e20] at h5
  rw [e20] at hn2
  -- what follows the first if
  have tail : ∀ (d1 d2 d3 : Int) (x2 : Sl), 0 ≤ d1 → d1 ≤ 63 → 0 ≤ d2 → 0 ≤ d3 → d3 ≤ 100000000000000000000000000000000 + d1 * 100000000000000000000 →
      SD ((cxOf CX0 P w K mg base n__law_draw "_law_draw" (defScope s__law_draw) f cdv A outer s H E).nox) [.oat l (deckD ns d1 d2 d3 d4), .val (.int n), x2, .no, .no] ((defBody s__law_draw).drop 1) { nx := fun _ => False, rt := fun δ' d => ∃ r ds', d = .int r ∧ PtD (deckD ns 0 0 0 d4) n ds' r ∧ δ'[0]? = some (.oat l ds') } := by
    intro d1 d2 d3 x2 h1 h2 h3 h4 h5
    refine sd_if (CD.td (cd_gt (ed_ixAt (i := 0) (k := 2) rfl rfl ed_int) ed_int)) (fun hp => ?_) (fun hp => ?_)
    · have hp2 : (0 : Int) < d2 := of_decide_eq_true hp
      refine sd_set (i := 3) (d := .int (d2 % n)) (ed_mod (by omega) (ed_intOf (ed_ixAt (i := 0) (k := 2) rfl rfl ed_int) T.int) (ev 1)) ?_
      refine sd_item (i := 0) (k := 2) (j := 2) (d := .int (d2 / n)) rfl rfl (ed_fdivW ⟨by omega, ?_⟩ (ed_ixAt (i := 0) (k := 2) rfl rfl ed_int) (ev 1)) ed_int ?_
      · have hz : n.natAbs ≠ 0 := by omega
        exact (Nat.log2_lt hz).mpr (Nat.lt_of_lt_of_le (show n.natAbs < 2 ^ 70 by omega) (Nat.pow_le_pow_right (by decide) (by decide)))
      · refine sd_ret (ev 3) ⟨d2 % n, deckD ns d1 (d2 / n) d3 d4, rfl, ⟨Int.emod_nonneg _ (by omega), Int.emod_lt_of_pos _ (by omega), ⟨ns, d1, d2 / n, d3, d4, rfl, hns, h1, h2, Int.ediv_nonneg h3 (by omega), h4, by rw [e32, e20]; exact h5, h6⟩, ?_⟩, rfl⟩
        show d4 ≤ d4 + 1
        omega
    · refine sd_nil ?_
      refine sd_item (i := 0) (k := 4) (j := 4) (d := .int (d4 + 1)) rfl rfl (ed_add (ed_ixAt (i := 0) (k := 4) rfl rfl ed_int) ed_int) ed_int ?_
      show SD _ [.oat l (deckD ns d1 d2 d3 (d4 + 1)), .val (.int n), x2, .no, .no] _ _
      have hb0 : 0 ≤ d3 + 60013 * (d4 + 1) := by omega
      have hb1 : d3 + 60013 * (d4 + 1) < 2 ^ 128 := by rw [e128]; omega
      refine sd_set (i := 4) (d := .int (((d3 + 60013 * (d4 + 1)) ^ 3 + (d4 + 1)) % ((10 : Int) ^ 32 + 49))) (ed_mod (by rw [e32]; decide) (ed_intOf (ed_add (ed_powW (j := 3) (pw3 hb0 hb1) (ed_add (ed_ixAt (i := 0) (k := 3) rfl rfl ed_int) (ed_mul (.inl ⟨by decide, by decide⟩) ed_int (ed_ixAt (i := 0) (k := 4) rfl rfl ed_int))) ed_int) (ed_ixAt (i := 0) (k := 4) rfl rfl ed_int)) T.int) (ed_add (ed_ten (k := 32) (by decide)) ed_int)) ?_
      generalize (((d3 + 60013 * (d4 + 1)) ^ 3 + (d4 + 1)) % ((10 : Int) ^ 32 + 49)) = st
      show SD _ [.oat l (deckD ns d1 d2 d3 (d4 + 1)), .val (.int n), x2, .no, .val (.int st)] _ _
      refine sd_item (i := 0) (k := 3) (j := 3) (d := .int ((st * 33391 + d3) % ((10 : Int) ^ 30 + 57))) rfl rfl (ed_mod (by rw [e30]; decide) (ed_intOf (ed_add (ed_mul (.inr ⟨by decide, by decide⟩) (ev 4) ed_int) (ed_ixAt (i := 0) (k := 3) rfl rfl ed_int)) T.int) (ed_add (ed_ten (k := 30) (by decide)) ed_int)) ed_int ?_
      have hm0 : 0 ≤ (st * 33391 + d3) % ((10 : Int) ^ 30 + 57) := Int.emod_nonneg _ (by rw [e30]; decide)
      have hm1 : (st * 33391 + d3) % ((10 : Int) ^ 30 + 57) < (10 : Int) ^ 30 + 57 := Int.emod_lt_of_pos _ (by rw [e30]; decide)
      generalize (st * 33391 + d3) % ((10 : Int) ^ 30 + 57) = m at hm0 hm1 ⊢
      rw [e30] at hm1
      show SD _ [.oat l (deckD ns d1 d2 m (d4 + 1)), .val (.int n), x2, .no, .val (.int st)] _ _
      refine sd_ret (ed_mod (by omega) (ed_fdivW (j := 8209) ⟨by decide, by decide +kernel⟩ (ed_mod (by rw [e35]; decide) (ed_intOf (ed_powW (j := 3) (pw3 hm0 (by rw [e128]; omega)) (ed_ixAt (i := 0) (k := 3) rfl rfl ed_int) ed_int) T.int) (ed_add (ed_ten (k := 35) (by decide)) ed_int)) ed_int) (ev 1)) ⟨_, deckD ns d1 d2 m (d4 + 1), rfl, ⟨Int.emod_nonneg _ (by omega), Int.emod_lt_of_pos _ (by omega), ⟨ns, d1, d2, m, d4 + 1, rfl, hns, h1, h2, h3, hm0, by rw [e32, e20]; omega, by omega⟩, ?_⟩, rfl⟩
      show d4 + 1 ≤ d4 + 1
      omega
  refine sd_if (td_and2 (CD.td (cd_eqI (ed_ixAt (i := 0) (k := 2) rfl rfl ed_int) ed_int)) fun _ => CD.td (cd_lt (ed_ixAt (i := 0) (k := 1) rfl rfl ed_int) (ed_len (.inl rfl) (ed_ixAt (i := 0) (k := 0) rfl rfl ed_int) T.len))) (fun hp => ?_) (fun hp => ?_)
  · obtain ⟨p1, p2⟩ := Bool.and_eq_true_iff.mp hp
    have hlt := of_decide_eq_true p2
    rw [List.length_map] at hlt
    obtain ⟨j, rfl⟩ : ∃ j : Nat, d1 = (j : Int) := ⟨d1.toNat, by omega⟩
    have hj : j < ns.length := by omega
    refine sd_set (i := 2) (d := .int (if ns[j] < 0 then -ns[j] else ns[j])) (ed_abs (ed_ixN (ds := ns.map PyData.int) (j := j) (.inl rfl) rfl (by rw [List.getElem?_map, List.getElem?_eq_getElem hj]; rfl) (ed_ixAt (i := 0) (k := 0) rfl rfl ed_int) (ed_ixAt (i := 0) (k := 1) rfl rfl ed_int)) T.abs) ?_
    have hc0 : 0 ≤ (if ns[j] < 0 then -ns[j] else ns[j]) := by split <;> omega
    generalize (if ns[j] < 0 then -ns[j] else ns[j]) = c at hc0 ⊢
    show SD _ [.oat l (deckD ns j d2 d3 d4), .val (.int n), .val (.int c), .no, .no] _ _
    refine sd_item (i := 0) (k := 1) (j := 1) (d := .int ((j : Int) + 1)) rfl rfl (ed_add (ed_ixAt (i := 0) (k := 1) rfl rfl ed_int) ed_int) ed_int ?_
    show SD _ [.oat l (deckD ns ((j : Int) + 1) d2 d3 d4), .val (.int n), .val (.int c), .no, .no] _ _
    refine sd_if (CD.td (cd_ge (ev 2) (ed_ten (k := 18) (by decide)))) (fun hq => ?_) (fun hq => ?_)
    · have hq' := of_decide_eq_true hq
      rw [e18] at hq'
      refine sd_item (i := 0) (k := 2) (j := 2) (d := .int (c - (10 : Int) ^ 18)) rfl rfl (ed_sub (ev 2) (ed_ten (k := 18) (by decide))) ed_int (sd_nil (sd_nil ?_))
      exact tail ((j : Int) + 1) (c - (10 : Int) ^ 18) d3 _ (by omega) (by omega) (by rw [e18]; omega) h4 (by omega)
    · have hq' := of_decide_eq_false hq
      rw [e18] at hq'
      refine sd_item (i := 0) (k := 3) (j := 3) (d := .int (d3 + 11 * c + 2)) rfl rfl (ed_add (ed_add (ed_ixAt (i := 0) (k := 3) rfl rfl ed_int) (ed_mul (.inl ⟨by decide, by decide⟩) ed_int (ev 2))) ed_int) ed_int (sd_nil (sd_nil ?_))
      exact tail ((j : Int) + 1) d2 (d3 + 11 * c + 2) _ (by omega) (by omega) h3 (by omega) (by omega)
  · exact sd_nil (tail d1 d2 d3 .no h1 h2 h3 h4 h5)
end
end C9
set_option Elab.async false
set_option linter.all false
set_option maxRecDepth 100000
set_option maxHeartbeats 2000000
namespace C9
open PySem PySem.Spec PyProof.Rows L2 LamX
def none0 : Hp := fun _ => none
theorem ex_none0 (H : Hp) : Ex none0 H := fun _ _ e => by cases e
def spDeck (K : PySem.W.Frag) (mg : Str → Option Value) (base : Heap) : Sp := fun vs H Q _ => TabOk K mg base H ∧ ∃ (a : Addr) (ns : List Int), vs = [.ref a] ∧ SqL K H a (ns.map V.int) ∧ ns.length ≤ 63 ∧
  ∀ (l : Addr) (vsl : List V) (m : Int) (G' H' : Hp), Gr none0 H G' H' → H l = none → G' l = none → H' l = some (.lst vsl) → DdAll G' vsl (deckD ns 0 0 m 1) → 0 ≤ m → m < 10 ^ 25 + 13 → Q (.ref l) H'
theorem sq_ex {K : PySem.W.Frag} {H H' : Hp} {a : Addr} {xs : List V} (e : Ex H H') (h : SqL K H a xs) : SqL K H' a xs := by
  rcases h with (h | ⟨o, h⟩) | h
  · exact .inl (.inl (e _ _ h))
  · exact .inl (.inr ⟨o, e _ _ h⟩)
  · exact .inr h
theorem dda_ofInts {G : Hp} : ∀ ns : List Int, DdAll G (ns.map V.int) (ns.map PyData.int)
  | [] => .nil
  | n :: ns => .cons (.int n) (dda_ofInts ns)
section
variable {P : Program} {w : World} {K : PySem.W.Frag} {mg : Str → Option Value} {base : Heap}
theorem w__law_deck {f : Addr} {fd : FuncData} (T : Txt mg) (F : Fun K "_law_deck" "_law_deck" s__law_deck f fd) : FnG P w K mg base 1 f fd ["_law_script"] (spDeck K mg base) := by
  refine fnG_of (k := 0) F sc__law_deck (fun vs H Q E h => ?_) fun cdv _ _ A outer s H vs Q E hG hr h => ?_
  · obtain ⟨_, a, ns, rfl, _⟩ := h
    rfl
  · obtain ⟨tb, a, ns, rfl, hS, hns, q⟩ := h
    have nd := sc__law_deck.nd
    have e25 : (10 : Int) ^ 25 = 10000000000000000000000000 := by decide +kernel
    have main : PSs ((cxOf CX0 P w K mg base n__law_deck "_law_deck" (defScope s__law_deck) f cdv A outer s H E).nox) (defBody s__law_deck) _ :=
      pss_cons (ps_set (i := 1) nd rfl (.inl rfl) pe_int)
      (pss_cons (ps_for PassesOwn.never rfl (pi_list (pe_var (i := 0) rfl (.inl rfl))) (pg_name (i := 2) nd rfl (.inl rfl)) (pss_one (ps_set (i := 1) nd rfl (.inl rfl) pe_rd)))
      (pss_one (ps_ret (pe_lst (pa_cons (pe_callTy call_list_of (by rfl) T.list (by decide +kernel) (pa_cons (pe_var (i := 0) rfl (.inl rfl)) pa_nil)) (pa_cons pe_int (pa_cons pe_int (pa_cons (pe_var (i := 1) rfl (.inl rfl)) (pa_cons pe_int pa_nil)))))))))
    intro pins s1 I
    refine main.run pins s1 _ H _ I ?_
    refine ⟨.ref a, rfl, a, rfl, ⟨_, hS⟩, fun i m σ H3 => ∃ mx y2 G3, σ = [some (.ref a), some (.int mx), y2] ∧ i + m = ns.length ∧ Gr none0 H G3 H3 ∧ 0 ≤ mx ∧ mx < 10 ^ 25 + 13, ⟨ns.length, 29, none, none0, rfl, by omega, Gr.refl (ex_none0 H), by decide, by rw [e25]; decide⟩, fun i m σ H3 hW => ?_⟩
    obtain ⟨mx, y2, G3, rfl, em, g3, m0, m1⟩ := hW
    have hS3 := sq_ex g3.hh hS
    by_cases hi : i < ns.length
    · have g : (ns.map V.int)[i]? = some (.int ns[i]) := by
        rw [List.getElem?_map, List.getElem?_eq_getElem hi]; rfl
      refine .inr ⟨⟨_, _, hS3, g⟩, fun σ' H' => ∃ mx y2 G4, σ' = [some (.ref a), some (.int mx), y2] ∧ Gr none0 H G4 H' ∧ 0 ≤ mx ∧ mx < 10 ^ 25 + 13, fun σ' H' hN => ?_, fun v H' hy => ?_⟩
      · obtain ⟨mx', z2, G4, e1, e2, e3, e4⟩ := hN
        exact ⟨m - 1, by omega, mx', z2, G4, e1, by omega, e2, e3, e4⟩
      · obtain ⟨rfl, fv⟩ := hy
        have ev9 : v = .int ns[i] := Option.some.inj ((fv _ hS3).symm.trans g)
        subst ev9
        have hmod : (0 : Int) < 10 ^ 25 + 13 := by rw [e25]; decide
        have rs : RS (pw ((cxOf CX0 P w K mg base n__law_deck "_law_deck" (defScope s__law_deck) f cdv A outer s H E).nox)) ⟨none0, H, none0⟩ [.no, .val (.int mx), .val (.int ns[i])] [some (.ref a), some (.int mx), some (.int ns[i])] G3 H' := by
          refine ⟨tb, g3, ex_none0 _, rfl, fun i x o h1 h2 => ?_, fun i j x y a hij h1 h2 m1 m2 _ _ => ?_⟩
          · match i, h1, h2 with
            | 0, h1, _ => cases h1; trivial
            | 1, h1, h2 => cases h1; cases h2; exact ⟨_, rfl, .int _⟩
            | 2, h1, h2 => cases h1; cases h2; exact ⟨_, rfl, .int _⟩
            | i + 3, h1, _ => cases h1
          · match i, h1 with
            | 0, h1 => cases h1; cases m1
            | 1, h1 => cases h1; cases m1
            | 2, h1 => cases h1; cases m1
            | i + 3, h1 => cases h1
        refine (ed_mod (X := ((cxOf CX0 P w K mg base n__law_deck "_law_deck" (defScope s__law_deck) f cdv A outer s H E).nox)) (δ := [.no, .val (.int mx), .val (.int ns[i])]) (i := mx * 52361 + (if ns[i] < 0 then -ns[i] else ns[i]) + 3) (j := (10 : Int) ^ 25 + 13) hmod (ed_intOf (ed_add (ed_add (ed_mul (.inr ⟨by decide, by decide⟩) (ev 1) ed_int) (ed_abs (ev 2) T.abs)) ed_int) T.int) (ed_add (ed_ten (k := 25) (by decide)) ed_int)) ⟨none0, H, none0⟩ _ G3 H' _ rs fun v G4 H4 g4 d4 => ?_
        cases d4
        exact ⟨_, _, G4, rfl, g3.trans g4, Int.emod_nonneg _ (by omega), Int.emod_lt_of_pos _ hmod⟩
    · refine .inl ⟨⟨_, hS3, by rw [List.length_map]; omega⟩, ?_⟩
      refine ⟨.ref a, rfl, a, ns.map V.int, rfl, .inl hS3, fun l1 hl1 => ⟨.int mx, rfl, by show 5 ≤ sizeLine; decide, fun l hl => ?_⟩⟩
      have g4 : Gr G3 H3 (upd G3 l1 (.lst (ns.map V.int))) (upd H3 l1 (.lst (ns.map V.int))) := Gr.new g3.gh hl1
      have g5 : Gr (upd G3 l1 (.lst (ns.map V.int))) (upd H3 l1 (.lst (ns.map V.int))) (upd G3 l1 (.lst (ns.map V.int))) (upd (upd H3 l1 (.lst (ns.map V.int))) l (.lst [.ref l1, .int 0, .int 0, .int mx, .int 1])) := Gr.raw g4.gh hl
      have gg := (g3.trans g4).trans g5
      refine q l _ mx _ _ gg ((g3.trans g4).hh.free hl) (g4.gh.free hl) upd_same (.cons (.lst upd_same (dda_ofInts ns)) (.cons (.int _) (.cons (.int _) (.cons (.int _) (.cons (.int _) .nil))))) m0 m1
end
end C9
set_option Elab.async false
set_option linter.all false
set_option maxRecDepth 100000
set_option maxHeartbeats 2000000
namespace C9
open PySem PySem.Spec PyProof.Rows L2 LamX
theorem everySet_up : ∀ n ≤ 5, ∀ m ≤ n, ∀ s ∈ everySet n m, s ∈ everySet n n := by decide +kernel
theorem mem_cases0 : ((List.range 6).all fun n => (List.range 6).all fun m => !(decide (1 ≤ n) && decide (m ≤ n)) || (cases.contains (n, m, none) && (List.range 6).all fun k => !decide (1 ≤ k) || cases.contains (n, m, some k))) = true := by decide +kernel
theorem mem_cases {n m : Nat} (h1 : 1 ≤ n) (h2 : n ≤ 5) (h3 : m ≤ n) : (n, m, none) ∈ cases ∧ ∀ k : Nat, 1 ≤ k → k ≤ 5 → (n, m, some k) ∈ cases := by
  have q := List.all_eq_true.mp (List.all_eq_true.mp mem_cases0 n (List.mem_range.mpr (by omega))) m (List.mem_range.mpr (by omega))
  rw [decide_eq_true h1, decide_eq_true h3] at q
  obtain ⟨a, b⟩ := Bool.and_eq_true_iff.mp (show (cases.contains (n, m, none) && (List.range 6).all fun k => !decide (1 ≤ k) || cases.contains (n, m, some k)) = true from q)
  refine ⟨List.contains_iff_mem.mp a, fun k k1 k2 => ?_⟩
  have z := List.all_eq_true.mp b k (List.mem_range.mpr (by omega))
  rw [decide_eq_true k1] at z
  exact List.contains_iff_mem.mp z
section
variable {X : Cx} {δ : List Sl} {e : Expr} {rest : List Stmt} {E : En}
/-- _law_deck(script) -/
theorem rd_deck {k : Nat} {f a : Addr} {fd : FuncData} {x y : Str} {py p pos : Pos} {σ : L2.St} {H : Hp} {Q : VK} (F : FnG X.prog X.w X.K X.mg X.base k f fd ["_law_script"] (spDeck X.K X.mg X.base)) (hm : X.mg x = some (.ref f)) (hk : PySem.W.keepIn X.K (.ref f) = true) (hb : Binds X.K fd ["_law_script"] []) (hG : X.A.guards = some []) (hr : Room k X.A)
    (h : σ[0]? = some (some (.ref a))) (hsp : spDeck X.K X.mg X.base [.ref a] H Q E0) (hN : X.N[0]? = some y := by rfl) (hv : Vis X.env.scope y := by first | exact Or.inl rfl | exact Or.inr (Or.inl rfl) | exact Or.inr (Or.inr rfl))
    (h1 : (y == ("__debug__" : Str)) = false := by decide) (h2 : (y == ("__classdict__" : Str)) = false := by decide) (hg : Gl X x := by rfl) (hdb : (x == ("__debug__" : Str)) = false := by decide)
    (hs : starEach [.Name y py] X.env = (false, eval (.Name y py) X.env) :: starEach [] X.env := by rfl) (hpl : (backTo pos (starEach [] X.env)).any (·.1) = false := by rfl) :
    rd X (.Call (.Name x p) [.Name y py] [] pos) σ H Q := fun pins s I => by
  refine wpAny_Call_Name_kw (ld_glob I hg hm ?_ hdb)
  refine PySem.W.callWith_K (h₀ := X.base) I.ok.mod.kin hk (thn ((pa_cons (pe_var hN hv h1 h2) pa_nil hs).run pos pins s σ H (fun vs H1 => vs = [.ref a] ∧ H1 = H) I ⟨.ref a, h, rfl, rfl⟩) fun us s1 ⟨vs, H1, I1, r, e1, e2⟩ => ⟨I1.kIn, ?_⟩) hs hpl
  subst e1 e2
  have hl : us.length = 1 := by rw [← r.length]; rfl
  have hb' := hb s1 us I1.kIn (by rw [List.append_nil]; exact hl)
  rw [List.append_nil] at hb'
  exact run_fnG (vs := [.ref a]) (ws := us) (kw := []) F hG hr hb' I1 r hsp
/-- a draw below n -/
theorem md_drawE {y : Str} {py p pos : Pos} {ds : List PyData} {n c : Int} (D : DefM X.prog X.w X.K X.mg X.base 1 "_law_draw" DmD PtD) (hG : X.A.guards = some []) (hr : Room 1 X.A) (hd : δ[1]? = some (.own ds)) (hk : DkOk ds) (h4 : d4Of ds ≤ c) (hc : c ≤ 100) (h1 : 1 ≤ n) (h2 : n ≤ 10 ^ 20) (he : ED X δ e (.int n)) (hN : X.N[1]? = some y := by rfl)
    (hv : Vis X.env.scope y := by first | exact Or.inl rfl | exact Or.inr (Or.inl rfl) | exact Or.inr (Or.inr rfl)) (q1 : (y == ("__debug__" : Str)) = false := by decide) (q2 : (y == ("__classdict__" : Str)) = false := by decide) (hg : Gl X "_law_draw" := by rfl)
    (hs : starEach [.Name y py, e] X.env = (false, eval (.Name y py) X.env) :: starEach [e] X.env := by rfl) (hs2 : starEach [e] X.env = (false, eval e X.env) :: starEach [] X.env := by rfl) (hpl : (backTo pos (starEach [e] X.env)).any (·.1) = false := by rfl) :
    MD X δ (.Call (.Name "_law_draw" p) [.Name y py, e] [] pos) (fun δ' d => ∃ r ds2, d = .int r ∧ 0 ≤ r ∧ r < n ∧ DkOk ds2 ∧ d4Of ds2 ≤ c + 1 ∧ δ' = δ.set 1 (.own ds2)) := by
  refine (md_draw D hG hr hd (md_ed he) (fun δ' d ⟨e1, e2⟩ => ⟨n, ds, e2, by rw [e1]; exact hd, hk, by omega, h1, h2⟩) hN hv q1 q2 hg (by decide) hs hs2 hpl).mono fun δ'' d h => ?_
  obtain ⟨δ', n', ds1, r, ds2, ⟨e1, e2⟩, hd1, ⟨r0, r1, k2, k4⟩, e3, e4⟩ := h
  cases e2
  rw [e1, hd] at hd1
  cases hd1
  exact ⟨r, ds2, e4, r0, r1, k2, by omega, by rw [e3, e1]⟩
end
section
variable {P : Program} {w : World} {K : PySem.W.Frag} {mg : Str → Option Value} {base : Heap}
/-- what the law calls -/
structure LawDefs (P : Program) (w : World) (K : PySem.W.Frag) (mg : Str → Option Value) (base : Heap) : Prop where
  draw : DefM P w K mg base 1 "_law_draw" DmD PtD
  sets : Def P w K mg base 5 "_law_sets" 2 R__law_sets
  columns : Def P w K mg base 6 "_law_columns" 3 R__law_columns
  row : Def P w K mg base 11 "_law_row_right" 5 R_row
  depth : Def P w K mg base 8 "fewest_in_turn" 3 R_depth
  turn : Def P w K mg base 8 "turn_tree" 3 R_turn
  int : Def P w K mg base 1 "_law_integer" 1 R_is_integer
  few : Def P w K mg base 10 "fewest_glasses" 3 R_fewest
  canT : Def P w K mg base 6 "_law_can_in_turn" 3 (R_canT 5)
  right : Def P w K mg base 12 "_law_tree_right" 5 (R_right 5)
  some : Def P w K mg base 9 "some_glasses" 3 R_some
  finds : Def P w K mg base 5 "finds" 4 R_finds
def lawRest : List Stmt := (defBody s_law).drop 6
theorem law_rest {f : Addr} {cdv : Value} {A : Around} {outer : List Env} {s : Shared} {H : Hp} {E : XK} (T : Txt mg) (L : LawDefs P w K mg base) (hG : ((cxOf CX0 P w K mg base n_law "law" (defScope s_law) f cdv A outer s H E).nox).A.guards = some []) (hr : Room 12 ((cxOf CX0 P w K mg base n_law "law" (defScope s_law) f cdv A outer s H E).nox).A) {n m : Nat} {c : Option Nat} {x : PyData} {x1 : Sl} (hc : (n, m, c) ∈ cases) (hx : FD x c) :
    SD ((cxOf CX0 P w K mg base n_law "law" (defScope s_law) f cdv A outer s H E).nox) [.no, x1, .val (natD n), .val (natD m), .val x, .no, .no, .no, .no, .no, .no] lawRest { nx := fun _ => False, rt := fun _ d => d = .bool true } := by
  have nd := sc_law.nd
  obtain ⟨h1, h2, h3⟩ := cases_ok _ hc
  obtain ⟨many, gs, d, t, F⟩ := facts_of hc
  dsimp only at h1 h2 h3
  have hlen := (bnd_sets n h2 m (by omega)).2
  have hdn : d ≤ n := Nat.le_trans F.dle F.le
  have hcols := cols_ok h2 (sets := everySet n m) (c := c)
  refine sd_set (i := 5) (d := setsL (everySet n m)) (ed_fn 12 L.sets hr hG (ad_cons (ev 2) (ad_cons (ev 3) ad_nil)) ⟨n, m, h2, by omega, rfl, rfl⟩) ?_
  refine sd_set (i := 6) (d := colsL (columns n (everySet n m) c)) (ed_fn 12 L.columns hr hG (ad_cons (ev 2) (ad_cons (ev 5) (ad_cons (ev 4) ad_nil))) ⟨n, everySet n m, x, c, h2, by omega, hx, rfl, rfl⟩) ?_
  refine sd_skip (p := false) (td_not (p := true) (td_fn 12 L.row hr hG (ad_cons (ev 2) (ad_cons (ev 3) (ad_cons (ev 4) (ad_cons (ev 5) (ad_cons (ev 6) ad_nil))))) ⟨n, m, x, c, hc, hx, rfl, rfl⟩)) ?_
  refine sd_par (i := 7) (j := 8) (d1 := natD d) (d2 := treeD t) (ed_fn 12 L.depth hr hG (ad_cons (ev 2) (ad_cons (ev 3) (ad_cons (ev 4) ad_nil))) ⟨n, m, x, c, d, t, h1, h2, h3, hx, F.tree, rfl, rfl⟩) (ed_fn 12 L.turn hr hG (ad_cons (ev 2) (ad_cons (ev 3) (ad_cons (ev 4) ad_nil))) ⟨n, m, x, c, d, t, h1, h2, h3, hx, F.tree, rfl, rfl⟩) ?_
  show SD _ [.no, x1, .val (natD n), .val (natD m), .val x, .val (setsL (everySet n m)), .val (colsL (columns n (everySet n m) c)), .val (natD d), .val (treeD t), .no, .no] _ _
  refine sd_skip (td_or2 (td_not (td_fn 12 L.int hr hG (ad_cons (ev 7) ad_nil) ⟨d, rfl, rfl⟩)) fun _ => td_not (td_le2 (k := (gs.length : Int)) ed_int (ev 7) (ed_fn 12 L.few hr hG (ad_cons (ev 2) (ad_cons (ev 3) (ad_cons (ev 4) ad_nil))) ⟨n, m, x, c, many, gs, h1, h2, h3, hx, F.best, rfl, rfl⟩))) ?_ ?_
  · refine sd_skip (td_and2 (CD.td (cd_gt (ev 7) ed_int)) fun hp => td_fn 12 L.canT hr hG (ad_cons (d := intsL (List.range (everySet n m).length)) (ED.to (LD.ed (ld_listRange (n := ((everySet n m).length : Int)) (by omega) (by omega) (ED.to (ed_len (.inl rfl) (ev 5) T.len) (by rw [List.length_map])) T.list T.range)) (by rw [Int.toNat_natCast]; rfl)) (ad_cons (ev 6) (ad_cons (d := natD (d - 1)) (ED.to (ed_sub (ev 7) ed_int) (by have := of_decide_eq_true hp; unfold natD; congr 1; omega)) ad_nil)))
      ⟨(everySet n m).length, _, _, d - 1, hcols.1, hcols.2, by rw [List.length_range]; omega, fun i hi => List.mem_range.mp hi, by omega, by decide, rfl, rfl⟩) ?_ ?_
    · have hright : R_right 5 [treeD t, setsL (everySet n m), natD n, x, natD d] (.bool true) := ⟨t, everySet n m, n, x, c, d, h2, hx, by omega, fun s hs => (everySet_up n h2 m h3 s hs), F.right, by omega, by decide, rfl, rfl⟩
      refine sd_skip (p := false) (td_not (p := true) (td_fn 12 L.right hr hG (ad_cons (ev 8) (ad_cons (ev 5) (ad_cons (ev 2) (ad_cons (ev 4) (ad_cons (ev 7) ad_nil))))) hright)) ?_
      refine sd_set (i := 9) (d := treeD t) (ed_kw 12 L.turn hr hG (ev 4) (ev 3) (ev 2) ⟨n, m, x, c, d, t, h1, h2, h3, hx, F.tree, rfl, rfl⟩) ?_
      refine sd_skip (CD.td (cd_neI (ed_kw 12 L.depth hr hG (ev 4) (ev 3) (ev 2) ⟨n, m, x, c, d, t, h1, h2, h3, hx, F.tree, rfl, rfl⟩) (ev 7))) ?_ (by rw [decide_eq_true rfl]; rfl)
      refine sd_set (i := 10) (d := glassesT gs) (ed_kw 12 L.some hr hG (ev 4) (ev 3) (ev 2) ⟨n, m, x, c, many, gs, h1, h2, h3, hx, F.best, rfl, rfl⟩) ?_
      show SD _ [.no, x1, .val (natD n), .val (natD m), .val x, .val (setsL (everySet n m)), .val (colsL (columns n (everySet n m) c)), .val (natD d), .val (treeD t), .val (treeD t), .val (glassesT gs)] _ _
      refine sd_skip (td_or2 (td_not (p := true) (td_fn 12 L.right hr hG (ad_cons (ev 9) (ad_cons (ev 5) (ad_cons (ev 2) (ad_cons (ev 4) (ad_cons (ev 7) ad_nil))))) hright)) fun _ => CD.td (cd_neI (ed_len (.inr rfl) (ev 10) T.len) (ed_fn 12 L.few hr hG (ad_cons (ev 2) (ad_cons (ev 3) (ad_cons (ev 4) ad_nil))) ⟨n, m, x, c, many, gs, h1, h2, h3, hx, F.best, rfl, rfl⟩))) ?_ ?_
      · exact sd_ret (CD.ed (cd_isB (ed_fn 12 L.finds hr hG (ad_cons (ev 2) (ad_cons (ev 3) (ad_cons (ev 10) (ad_cons (ev 4) ad_nil)))) ⟨n, m, gs, x, c, h1, h2, h3, F.gok h2 _ (fun N h => by cases h; rfl), hx, F.nd, rfl, rfl⟩) ed_bl)) rfl
      · rw [List.length_map, decide_eq_true rfl]; rfl
    · by_cases hd0 : d = 0
      · subst hd0; rfl
      · rcases Bool.or_eq_true_iff.mp F.turn with z | z
        · exact absurd (eq_of_beq z) hd0
        · rw [Bool.not_eq_true'] at z
          rw [z, Bool.and_false]
  · have q1 : decide ((0 : Int) ≤ (d : Int)) = true := decide_eq_true (by omega)
    have q2 : decide ((d : Int) ≤ (gs.length : Int)) = true := decide_eq_true (by have := F.len; have := F.dle; omega)
    rw [q1, q2]; rfl
end
end C9
set_option Elab.async false
set_option linter.all false
set_option maxRecDepth 100000
set_option maxHeartbeats 2000000
namespace C9
open PySem PySem.Spec PyProof.Rows L2 LamX
def spLaw (K : PySem.W.Frag) (mg : Str → Option Value) (base : Heap) : Sp := fun vs H Q _ => TabOk K mg base H ∧ ∃ (a : Addr) (ns : List Int), vs = [.ref a] ∧ SqL K H a (ns.map V.int) ∧ ns.length ≤ 63 ∧ ∀ H', Q (.bl true) H'
theorem rs_no {W : Pw} {H : Hp} {σ : L2.St} (n : Nat) (tb : TabOk W.K W.mg W.base H) (h : σ.length = n) : RS W ⟨none0, H, none0⟩ (List.replicate n .no) σ none0 H := by
  have no : ∀ {i : Nat} {x : Sl}, (List.replicate n Sl.no)[i]? = some x → x = .no := fun {i x} h => by
    rw [List.getElem?_replicate] at h
    split at h
    · cases h; rfl
    · cases h
  refine ⟨tb, Gr.refl (ex_none0 H), Ex.refl _, by rw [h, List.length_replicate], fun i x o h1 h2 => ?_, fun i j x y a hij h1 h2 m1 m2 _ _ => ?_⟩
  · rw [no h1]; trivial
  · rw [no h1] at m1; cases m1
section
variable {P : Program} {w : World} {K : PySem.W.Frag} {mg : Str → Option Value} {base : Heap}
/-- the draws, then the rest -/
theorem law_draws {f : Addr} {cdv : Value} {A : Around} {outer : List Env} {s : Shared} {H : Hp} {E : XK} (T : Txt mg) (L : LawDefs P w K mg base) (hG : ((cxOf CX0 P w K mg base n_law "law" (defScope s_law) f cdv A outer s H E).nox).A.guards = some []) (hr : Room 12 ((cxOf CX0 P w K mg base n_law "law" (defScope s_law) f cdv A outer s H E).nox).A) {ds : List PyData} (hk : DkOk ds) (h4 : d4Of ds ≤ 1) :
    SD ((cxOf CX0 P w K mg base n_law "law" (defScope s_law) f cdv A outer s H E).nox) [.no, .own ds, .no, .no, .no, .no, .no, .no, .no, .no, .no] ((defBody s_law).drop 1) { nx := fun _ => False, rt := fun _ d => d = .bool true } := by
  have nd := sc_law.nd
  have hr1 := hr.mono (show 1 ≤ 12 by decide)
  have e20 : (10 : Int) ^ 20 = 100000000000000000000 := by decide +kernel
  have e20' : (10 : Nat) ^ 20 = 100000000000000000000 := by decide +kernel
  have i20 : ∀ {z : Int}, z ≤ 100000000000000000000 → z ≤ (10 : Int) ^ 20 := fun h => by rw [e20]; exact h
  -- number
  refine sd_setM (i := 2) (md_add ed_int (md_drawE L.draw hG hr1 rfl hk h4 (by decide) (by decide) (i20 (by decide)) ed_int) (fun δ' d ⟨r, ds2, e, _⟩ => ⟨r, e⟩)) fun δ' d h => ?_
  obtain ⟨j, ⟨r, ds2, e1, r0, r1, hk2, h42, rfl⟩, rfl⟩ := h
  cases e1
  obtain ⟨n0, hn0⟩ : ∃ n0 : Nat, (1 : Int) + j = (n0 : Int) := ⟨(1 + j).toNat, by omega⟩
  rw [hn0]
  have hn1 : 1 ≤ n0 ∧ n0 ≤ 5 := by omega
  show SD _ [.no, .own ds2, .val (natD n0), .no, .no, .no, .no, .no, .no, .no, .no] _ _
  -- the rest, from the number on
  have afterN : ∀ (n : Nat) (ds : List PyData), 1 ≤ n → n ≤ 5 → DkOk ds → d4Of ds ≤ 3 → SD ((cxOf CX0 P w K mg base n_law "law" (defScope s_law) f cdv A outer s H E).nox) [.no, .own ds, .val (natD n), .no, .no, .no, .no, .no, .no, .no, .no] ((defBody s_law).drop 3) { nx := fun _ => False, rt := fun _ d => d = .bool true } := by
    intro n ds h1 h2 hk h4
    refine sd_setM (i := 3) (md_drawE (n := (n : Int) + 1) L.draw hG hr1 rfl hk h4 (by decide) (by omega) (i20 (by omega)) (ed_add (ev 2) ed_int)) fun δ' d h => ?_
    obtain ⟨r, ds2, rfl, r0, r1, hk2, h42, rfl⟩ := h
    obtain ⟨m, rfl⟩ : ∃ m : Nat, r = (m : Int) := ⟨r.toNat, by omega⟩
    have hmn : m ≤ n := by omega
    show SD _ [.no, .own ds2, .val (natD n), .val (natD m), .no, .no, .no, .no, .no, .no, .no] _ _
    -- the faint glass's share
    refine sd_setM (i := 4) (md_add ed_int (md_draw L.draw hG hr1 (i := 1) rfl (md_ix (ds := [.int 3, .int 9, .int (10 ^ 20 - 1)]) (ed_lst (ad_cons ed_int (ad_cons ed_int (ad_cons (ed_sub (ed_ten (k := 20) (by decide)) ed_int) ad_nil))) (by show 3 ≤ 100000; decide)) (md_drawE L.draw hG hr1 rfl hk2 h42 (by decide) (by decide) (i20 (by decide)) ed_int) ?_) ?_) ?_) fun δ' d h => ?_
    · rintro δ' d ⟨r, ds3, rfl, r0, r1, _⟩
      have : r = 0 ∨ r = 1 ∨ r = 2 := by omega
      rcases this with z | z | z <;> subst z
      · exact ⟨0, .int 3, rfl, rfl⟩
      · exact ⟨1, .int 9, rfl, rfl⟩
      · exact ⟨2, .int (10 ^ 20 - 1), rfl, rfl⟩
    · rintro δ' d ⟨j, ⟨r, ds3, e, r0, r1, hk3, h43, rfl⟩, hat⟩
      cases e
      have : j = 0 ∨ j = 1 ∨ j = 2 := by omega
      rcases this with z | z | z <;> subst z
      · cases hat
        exact ⟨3, ds3, rfl, rfl, hk3, by omega, by decide, i20 (by decide)⟩
      · cases hat
        exact ⟨9, ds3, rfl, rfl, hk3, by omega, by decide, i20 (by decide)⟩
      · cases hat
        exact ⟨10 ^ 20 - 1, ds3, rfl, rfl, hk3, by omega, by rw [e20]; decide, by rw [e20]; decide⟩
    · rintro δ' d ⟨_, _, _, r, _, _, _, _, _, e⟩
      exact ⟨r, e⟩
    · obtain ⟨jj, ⟨δ1, nn, ds3, r, ds4, ⟨j, ⟨r3, ds3', e, r0, r1, hk3, h43, rfl⟩, hat⟩, hd3, ⟨p0, p1, pk, p4⟩, rfl, e2⟩, rfl⟩ := h
      cases e
      cases e2
      cases hd3
      have hnn : nn ≤ 10 ^ 20 - 1 := by
        have : j = 0 ∨ j = 1 ∨ j = 2 := by omega
        rcases this with z | z | z <;> subst z <;> cases hat
        · rw [e20]; decide
        · rw [e20]; decide
        · exact Int.le_refl _
      rw [e20] at hnn
      obtain ⟨ff, hff⟩ : ∃ ff : Nat, (1 : Int) + jj = (ff : Int) := ⟨(1 + jj).toNat, by omega⟩
      rw [hff]
      have hf1 : 1 ≤ ff := by omega
      have hf2 : ff ≤ 10 ^ 20 := by rw [e20']; omega
      show SD _ [.no, .own ds4, .val (natD n), .val (natD m), .val (natD ff), .no, .no, .no, .no, .no, .no] _ _
      have mc := mem_cases h1 h2 hmn
      refine sd_ifM (md_drawE L.draw hG hr1 rfl pk (c := 6) (by omega) (by decide) (by decide) (i20 (by decide)) ed_int) (fun δ' => ed_int) (fun δ' d ⟨r, ds2, e, _⟩ => ⟨r, e⟩) (by rfl) (fun δ' h => ?_) (fun δ' j' h => ?_)
      · obtain ⟨_, ds5, _, _, _, _, _, rfl⟩ := h
        refine sd_set (i := 4) (d := .none) ed_non (sd_nil ?_)
        exact law_rest T L hG hr mc.1 .non
      · obtain ⟨_, ds5, _, _, _, _, _, rfl⟩ := h
        exact law_rest T L hG hr (mc.2 (min ff 5) (by omega) (by omega)) (.int hf1 hf2)
  -- number = 5
  refine sd_ifM (md_drawE L.draw hG hr1 rfl hk2 h42 (by decide) (by decide) (i20 (by decide)) ed_int) (fun δ' => ed_int) (fun δ' d ⟨r, ds2, e, _⟩ => ⟨r, e⟩) (by rfl) (fun δ' h => ?_) (fun δ' j' h => ?_)
  · obtain ⟨_, ds5, _, _, _, hk5, h45, rfl⟩ := h
    refine sd_set (i := 2) (d := natD 5) ed_int (sd_nil ?_)
    exact afterN 5 ds5 (by decide) (by decide) hk5 (by omega)
  · obtain ⟨_, ds5, _, _, _, hk5, h45, rfl⟩ := h
    exact afterN n0 ds5 hn1.1 hn1.2 hk5 (by omega)
theorem w_law {f fD : Addr} {fd fdD : FuncData} (T : Txt mg) (F : Fun K "law" "law" s_law f fd) (L : LawDefs P w K mg base) (FD : FnG P w K mg base 1 fD fdD ["_law_script"] (spDeck K mg base)) (hmD : mg "_law_deck" = some (.ref fD)) (hkD : PySem.W.keepIn K (.ref fD) = true) (hbD : Binds K fdD ["_law_script"] []) : FnG P w K mg base 13 f fd ["_law_script"] (spLaw K mg base) := by
  refine fnG_of (k := 12) F sc_law (fun vs H Q E h => ?_) fun cdv _ _ A outer s H vs Q E hG hr h => ?_
  · obtain ⟨_, a, ns, rfl, _⟩ := h
    rfl
  · obtain ⟨tb, a, ns, rfl, hS, hns, q⟩ := h
    have nd := sc_law.nd
    have main : PSs ((cxOf CX0 P w K mg base n_law "law" (defScope s_law) f cdv A outer s H E).nox) (defBody s_law) _ := pss_cons (ps_set (i := 1) nd rfl (.inl rfl) pe_rd) (pss_rd (st := (defBody s_law).drop 1))
    intro pins s1 I
    refine main.run pins s1 _ H _ I ?_
    refine rd_deck (X := (cxOf CX0 P w K mg base n_law "law" (defScope s_law) f cdv A outer s H E).nox) (a := a) FD hmD hkD hbD hG (hr.mono (by decide)) rfl ⟨tb, a, ns, rfl, hS, hns, fun l vsl m G' H' g hl1 hl2 hl3 dd m0 m1 => ?_⟩
    have e32 : (10 : Int) ^ 32 = 100000000000000000000000000000000 := by decide +kernel
    have e25 : (10 : Int) ^ 25 = 10000000000000000000000000 := by decide +kernel
    have e20 : (10 : Int) ^ 20 = 100000000000000000000 := by decide +kernel
    rw [e25] at m1
    have rs0 : RS (pw ((cxOf CX0 P w K mg base n_law "law" (defScope s_law) f cdv A outer s H E).nox)) ⟨none0, H, none0⟩ (List.replicate 11 .no) (start n_law [V.ref a]) none0 H := rs_no 11 tb rfl
    have rs1 := (rs0.grow g).own (i := 1) (l := l) hl2 hl1 hl3 dd fun j y e1 m2 _ => by
      rw [List.getElem?_replicate] at e1
      split at e1
      · cases e1; cases m2
      · cases e1
    have hdk : DkOk (deckD ns 0 0 m 1) := ⟨ns, 0, 0, m, 1, rfl, hns, by decide, by decide, by decide, m0, by rw [e32, e20]; omega, by decide⟩
    have h41 : d4Of (deckD ns 0 0 m 1) ≤ 1 := Int.le_refl 1
    refine law_draws (f := f) (cdv := cdv) (A := A) (outer := outer) (s := s) (H := H) (E := E) T L hG hr hdk h41 ⟨none0, H, none0⟩ _ G' H' _ rs1 ⟨fun _ _ _ _ z => z.elim, fun _ d v _ G2 H2 hd _ dv => ?_, fun _ _ _ _ z => z.elim, fun _ _ _ _ z => z.elim⟩
    rw [hd] at dv
    cases dv
    exact q H2
end
end C9
set_option Elab.async false
set_option linter.all false
set_option maxRecDepth 100000
set_option maxHeartbeats 2000000
namespace C9
open PySem PySem.Spec PyProof.Rows L2 LamX
theorem codeHd_eq {h : Heap} {c P Q : Addr} (a : PySem.W.CodeHd h c P) (b : PySem.W.CodeHd h c Q) : P = Q := by
  obtain ⟨o, us, _, _, _, _, _, _, _, e1, _, e3, e4, _⟩ := a
  obtain ⟨o', us', _, _, _, _, _, _, _, f1, _, f3, f4, _⟩ := b
  rw [e1] at f1
  cases f1
  rw [e3] at f3
  cases f3
  rw [e4] at f4
  cases f4
  rfl
/-- the heap that the law starts with: the script, if it is no object of the module, and the one table -/
def startH (K : PySem.W.Frag) (a P0 : Addr) (vs : List Value) (ns : List Int) : Hp := fun b => if b = P0 then some (.tbl #[]) else if b = a then (match K.lookup a with
  | some _ => none
  | none => some (.frz { cls := .type "list", data := .seq vs.toArray } (.lst (ns.map V.int)))) else none
section
variable {P : Program} {w : World} {K : PySem.W.Frag} {mg mb : Str → Option Value} {k : Nat} {fa a c P0 f2 : Addr} {fd fd2 : FuncData} {o2 : Obj} {s₁ : Shared} {vs : List Value} {ns : List Int}
theorem law_callG (KX : K.In s₁.heap) (hns : s₁.heap.Ns mainGlobals mg) (hb : s₁.heap.Ns builtinsNs mb) (hbb : ∀ x : Str, x ≠ "__name__" → mb x = bootBuiltins x) (hlim : s₁.heap.NoLimit) (hg : s₁.gens = #[])
    (hT : s₁.heap.get? P0 = some { cls := .none, data := .fields #[] }) (nT : K.lookup P0 = none) (C : PySem.W.CodeHd s₁.heap c P0)
    (hbm : ∃ (bm : Addr) (ob : Obj), mg "__builtins__" = some (.ref bm) ∧ bm ≠ builtinsNs ∧ s₁.heap.get? bm = some ob ∧ ob.cls = .type "module" ∧ ob.dict = some builtinsNs ∧ ob.data = .plain)
    (ha : s₁.heap.get? a = some { cls := .type "list", data := .seq vs.toArray }) (hi : IntsAre vs ns) (hl : ns.length ≤ 63) (hr : Room k callerA)
    (g1 : mg "_law_sets" = some (.ref f2)) (g2 : K.lookup f2 = some o2) (g3 : o2.data = .func fd2) (g4 : fd2.code = .ref c)
    (F : ∀ base : Heap, K.In base → base.Ns mainGlobals mg → TabB base mg c P0 → FnG P w K mg base k fa fd ["_law_script"] (spLaw K mg base)) (hbind : ∀ (s : Shared) (u : Value), BindsTo s fd ⟨[u], []⟩ [("_law_script", u)]) :
    codeAny (model P w) callerA (.call (.ref fa) ⟨[.ref a], []⟩) (fun r s' => r = .ok (.ret (.bool true)) ∧ OldK s₁.heap s'.heap ∧ s'.os = s₁.os ∧ AllBare s'.gens) s₁ := by
  have rv := vals_ints hi
  have lenV := hi.length
  have small : ns.length ≤ sizeLine := Nat.le_trans hl (by decide)
  have aP : a ≠ P0 := fun z => by rw [z, hT] at ha; cases ha
  have HP : startH K a P0 vs ns P0 = some (.tbl #[]) := if_pos rfl
  -- what stands at b there
  have look : ∀ b u, startH K a P0 vs ns b = some u → (b = P0 ∧ u = .tbl #[]) ∨ (b = a ∧ K.lookup a = none ∧ u = .frz { cls := .type "list", data := .seq vs.toArray } (.lst (ns.map V.int))) := fun b u e => by
    unfold startH at e
    split at e
    · rename_i h; cases e; exact .inl ⟨h, rfl⟩
    · split at e
      · rename_i h
        split at e
        · cases e
        · rename_i hk; cases e; exact .inr ⟨h, hk, rfl⟩
      · cases e
  have away : ∀ b, b ≠ P0 → (b = a → K.lookup a ≠ none) → startH K a P0 vs ns b = none := fun b h1 h2 => by
    cases q : startH K a P0 vs ns b with
    | none => rfl
    | some u =>
      rcases look b u q with ⟨z, _⟩ | ⟨z, hk, _⟩
      · exact absurd z h1
      · exact absurd hk (h2 z)
  have inBase : ∀ {b : Addr} {o : Obj}, s₁.heap.get? b = some o → (∀ us n, o.data ≠ .seq us n) → o.data ≠ .fields #[] → (hidT s₁.heap (startH K a P0 vs ns)).get? b = some o := fun {b o} e h1 h2 => hidT_get e (away b (fun z => by rw [z, hT] at e; cases e; exact h2 rfl) (fun z => by rw [z, ha] at e; cases e; exact (h1 _ _ rfl).elim))
  have nsBase : ∀ {b : Addr} {m : Str → Option Value}, s₁.heap.Ns b m → (hidT s₁.heap (startH K a P0 vs ns)).Ns b m := fun {b m} ⟨o, es, ep, e, d, r⟩ => ⟨o, es, ep, inBase e (fun us n z => by rw [d] at z; cases z) (fun z => by rw [d] at z; cases z), d, r⟩
  have kBase : K.In (hidT s₁.heap (startH K a P0 vs ns)) := fun b o e => hidT_get (KX b o e) (away b (fun z => by rw [z, nT] at e; cases e) (fun z => by rw [z] at e; rw [e]; simp))
  have TB : TabB (hidT s₁.heap (startH K a P0 vs ns)) mg c P0 := by
    refine ⟨?_, ?_, fun z => ?_⟩
    · obtain ⟨o, us, file, tf, flags, tg, inF, text, tt, e1, r1, r2, r3, r⟩ := C
      exact ⟨o, us, file, tf, flags, tg, inF, text, tt, inBase e1 (fun us n z => by rw [r2] at z; cases z) (fun z => by rw [r2] at z; cases z; simp at r3), r1, r2, r3, r⟩
    · obtain ⟨bm, ob, b1, b2, b3, b4, b5, b6⟩ := hbm
      refine ⟨bm, ob, b1, b2, fun q => ?_, fun q => ?_, inBase b3 (fun us n z => by rw [b6] at z; cases z) (fun z => by rw [b6] at z; cases z), b4, b5, b6⟩
      · obtain ⟨o, es, ep, e, hd, _⟩ := hns
        rw [q, e] at b3
        cases b3
        rw [hd] at b6
        cases b6
      · rw [q, hT] at b3
        cases b3
        cases b6
    · obtain ⟨o, es, ep, e, hd, _⟩ := hns
      rw [z, hT] at e
      cases e
      cases hd
  have ok : HOk P w (startH K a P0 vs ns) s₁.heap := fun b u e => by
    rcases look b u e with ⟨z1, z2⟩ | ⟨z1, _, z2⟩
    · subst z1 z2; exact hT
    · subst z1 z2; exact ⟨ha, by rw [List.length_map]; exact small, vs, _, rv, ha⟩
  have tab : TabOk K mg (hidT s₁.heap (startH K a P0 vs ns)) (startH K a P0 vs ns) := by
    refine ⟨fun Q ps e => ?_, fun Q hQ => ?_⟩
    · rcases look Q _ e with ⟨_, z⟩ | ⟨_, _, z⟩
      · cases z
        exact ⟨trivial, fun pos cv hc => by
          have z : codeAmong pos [] = some cv := hc
          simp [codeAmong] at z⟩
      · cases z
    · obtain ⟨f3, c3, o3, fd3, k1, k2, k3, k4, k5⟩ := hQ
      rw [g1] at k1
      cases k1
      rw [g2] at k2
      cases k2
      rw [g3] at k3
      cases k3
      rw [g4] at k4
      cases k4
      rw [codeHd_eq k5 TB.code]
      exact ⟨_, HP⟩
  have script : SqL K (startH K a P0 vs ns) a (ns.map V.int) := by
    cases hk : K.lookup a with
    | some o =>
      have e := KX a o hk
      rw [ha] at e
      cases e
      exact .inr ⟨_, vs.toArray, _, hk, rfl, rfl, rfl, by rw [List.size_toArray, lenV]; exact small, by simpa using rv⟩
    | none =>
      refine .inl (.inr ⟨{ cls := .type "list", data := .seq vs.toArray }, ?_⟩)
      unfold startH
      rw [if_neg aP, if_pos rfl, hk]
  have hM : L2.Mod K mg (hidT s₁.heap (startH K a P0 vs ns)) := ⟨kBase, nsBase hns, ⟨mb, nsBase hb, hbb⟩, let ⟨mc, h1, h2⟩ := hlim; ⟨mc, nsBase h1, h2⟩⟩
  have e0 : Env0 P w K mg (hidT s₁.heap (startH K a P0 vs ns)) callerA [] s₁ (startH K a P0 vs ns) := ⟨rfl, hM, fun b o e => of_hidT e, Nat.le_of_eq (hidT_size _ _), trivial, fun b hb => absurd (show b ∈ ([] : List Addr) from hb) (by simp), ok, .of_eq hg⟩
  refine codeAny_mono ((F _ kBase (nsBase hns) TB).run callerA [] s₁ (startH K a P0 vs ns) ⟨[.ref a], []⟩ [.ref a] [.ref a] (fun v _ => v = .bl true) E0 rfl hr e0 (hbind s₁ (.ref a)) (.cons rfl .nil) ⟨tab, a, ns, rfl, script, hl, fun _ => rfl⟩) fun r s' h => ?_
  cases r with
  | error e => exact h.elim
  | ok fl =>
    cases fl with
    | next => exact h.elim
    | brk => exact h.elim
    | cont => exact h.elim
    | ret u =>
      obtain ⟨v, H', os, bare, un, ok', rr, q⟩ := h
      have q' : v = .bl true := q
      subst q'
      obtain rfl : u = Value.bool true := rr
      have same : ∀ b o, b ≠ P0 → s₁.heap.get? b = some o → s'.heap.get? b = some o := fun b o nb e => by
        cases hq : startH K a P0 vs ns b with
        | none => exact un.keep b o e hq (by intro z; exact absurd (show b ∈ ([] : List Addr) from z) (by simp)) (by simp)
        | some u =>
          rcases look b u hq with ⟨z, _⟩ | ⟨z1, _, z2⟩
          · exact absurd z nb
          · subst z1 z2
            obtain ⟨e1, _⟩ := ok _ _ hq
            obtain ⟨e2, _⟩ := ok' _ _ (un.frzs _ _ _ hq)
            rw [e] at e1
            cases e1
            exact e2
      obtain ⟨more, hmore⟩ := un.tbls P0 #[] HP
      have grown : s'.heap.get? P0 = some { cls := .none, data := .fields (#[] ++ more) } := ok' P0 _ hmore
      refine ⟨rfl, ⟨fun b o e => ?_, fun b o e => ?_⟩, os, bare⟩
      · by_cases hb : b = P0
        · subst hb
          rw [hT] at e
          cases e
          exact .inr (.inl ⟨(C.tab hT).isCodeTable, rfl, #[], more, rfl, grown⟩)
        · exact .inl (same b o hb e)
      · by_cases hb : b = P0
        · subst hb; exact ⟨_, grown⟩
        · exact ⟨o, same b o hb e⟩
end
end C9
set_option Elab.async false
set_option linter.all false
set_option maxRecDepth 100000
set_option maxHeartbeats 2000000
namespace C9
open PySem PySem.Spec PyProof.Rows L2 LamX
/-- a def as the top has left it -/
def FnAt (K : PySem.W.Frag) (x : Str) (st : Stmt) : Prop := ∃ (f : Addr) (oc kV dc pm cd ct : Value) (od an : Option Addr) (sl : Array (Option Value)), PySem.W.nsIn K mainGlobals x = some (some (.ref f)) ∧
  K.lookup f = some ⟨oc, od, .func (PySem.W.fnOf x x (defArgs st) (defBody st) (defScope st) .none kV dc pm an cd ct), sl⟩ ∧ PySem.W.codeIn K cd x = true ∧ PySem.W.keepIn K (.ref f) = true
theorem fnAt_mk {K : PySem.W.Frag} {x : Str} {st : Stmt} {f : Addr} {oc kV dc pm cd ct : Value} {od an : Option Addr} {sl : Array (Option Value)} (a : PySem.W.nsIn K mainGlobals x = some (some (.ref f)))
    (l : K.lookup f = some ⟨oc, od, .func (PySem.W.fnOf x x (defArgs st) (defBody st) (defScope st) .none kV dc pm an cd ct), sl⟩) (c : PySem.W.codeIn K cd x = true) (k : PySem.W.keepIn K (.ref f) = true) : FnAt K x st := ⟨f, oc, kV, dc, pm, cd, ct, od, an, sl, a, l, c, k⟩
section
variable {P : Program} {w : World} {K : PySem.W.Frag} {mg : Str → Option Value} {h base : Heap}
theorem fn_at {x : Str} {st : Stmt} {ps : List Str} (X : K.In h) (G : h.Ns mainGlobals mg) (A : FnAt K x st) (hb : ∀ (kV doc pm : Value) (an : Option Addr) (cdv ct : Value) (us : List Value), us.length = ps.length → bindArgs (PySem.W.fnOf x x (defArgs st) (defBody st) (defScope st) .none kV doc pm an cdv ct) ⟨us, []⟩ = pure (ps.zip us))
    (hkw : ∀ (kV doc pm : Value) (an : Option Addr) (cdv ct : Value), KwB x (PySem.W.fnOf x x (defArgs st) (defBody st) (defScope st) .none kV doc pm an cdv ct) ps) : Fn K mg x st ps := by
  obtain ⟨f, oc, kV, dc, pm, cd, ct, od, an, sl, a, l, c, k⟩ := A
  have F := fun_mk l c k
  exact ⟨f, _, F, PySem.W.mg_of X G a, F.binds hb, hkw _ _ _ _ _ _⟩
theorem kw_no {x : Str} (hx : kwName x = false) {fd : FuncData} {ps : List Str} : KwB x fd ps := fun h => by rw [hx] at h; cases h
/-- all that the top has left -/
structure Tops (K : PySem.W.Frag) : Prop where
  f_is_integer : FnAt K "is_integer" s_is_integer
  f_need_count : FnAt K "need_count" s_need_count
  f_is_ascending : FnAt K "is_ascending" s_is_ascending
  f_need_glasses : FnAt K "need_glasses" s_need_glasses
  f_need_faint : FnAt K "need_faint" s_need_faint
  f_need_numbers : FnAt K "need_numbers" s_need_numbers
  f_is_bad : FnAt K "is_bad" s_is_bad
  f_told_by : FnAt K "told_by" s_told_by
  f_every_set : FnAt K "every_set" s_every_set
  f_answers : FnAt K "answers" s_answers
  f_alike_pair : FnAt K "alike_pair" s_alike_pair
  f_finds : FnAt K "finds" s_finds
  f_fitting : FnAt K "fitting" s_fitting
  f_unlike_glasses : FnAt K "unlike_glasses" s_unlike_glasses
  f_parted : FnAt K "parted" s_parted
  f_chosen : FnAt K "chosen" s_chosen
  f_best_glasses : FnAt K "best_glasses" s_best_glasses
  f_fewest_glasses : FnAt K "fewest_glasses" s_fewest_glasses
  f_some_glasses : FnAt K "some_glasses" s_some_glasses
  f_tree_within : FnAt K "tree_within" s_tree_within
  f_least_tree : FnAt K "least_tree" s_least_tree
  f_fewest_in_turn : FnAt K "fewest_in_turn" s_fewest_in_turn
  f_turn_tree : FnAt K "turn_tree" s_turn_tree
  f__law_deck : FnAt K "_law_deck" s__law_deck
  f__law_draw : FnAt K "_law_draw" s__law_draw
  f__law_sets : FnAt K "_law_sets" s__law_sets
  f__law_bad : FnAt K "_law_bad" s__law_bad
  f__law_answers : FnAt K "_law_answers" s__law_answers
  f__law_integer : FnAt K "_law_integer" s__law_integer
  f__law_are_glasses : FnAt K "_law_are_glasses" s__law_are_glasses
  f__law_columns : FnAt K "_law_columns" s__law_columns
  f__law_part : FnAt K "_law_part" s__law_part
  f__law_can : FnAt K "_law_can" s__law_can
  f__law_can_in_turn : FnAt K "_law_can_in_turn" s__law_can_in_turn
  f__law_tree_right : FnAt K "_law_tree_right" s__law_tree_right
  f__law_row_right : FnAt K "_law_row_right" s__law_row_right
  f_law : FnAt K "law" s_law
  z_len : PySem.W.nsIn K mainGlobals "len" = some none
  z_tuple : PySem.W.nsIn K mainGlobals "tuple" = some none
  z_int : PySem.W.nsIn K mainGlobals "int" = some none
  z_bool : PySem.W.nsIn K mainGlobals "bool" = some none
  z_str : PySem.W.nsIn K mainGlobals "str" = some none
  z_isinstance : PySem.W.nsIn K mainGlobals "isinstance" = some none
  z_all : PySem.W.nsIn K mainGlobals "all" = some none
  z_zip : PySem.W.nsIn K mainGlobals "zip" = some none
  z_range : PySem.W.nsIn K mainGlobals "range" = some none
  z_max : PySem.W.nsIn K mainGlobals "max" = some none
  z_list : PySem.W.nsIn K mainGlobals "list" = some none
  z_enumerate : PySem.W.nsIn K mainGlobals "enumerate" = some none
  z_repr : PySem.W.nsIn K mainGlobals "repr" = some none
  z_sorted : PySem.W.nsIn K mainGlobals "sorted" = some none
  z_abs : PySem.W.nsIn K mainGlobals "abs" = some none
theorem txt_of (X : K.In h) (G : h.Ns mainGlobals mg) (A : Tops K) : Txt mg := ⟨PySem.W.mg_none_of X G A.z_len, PySem.W.mg_none_of X G A.z_tuple, PySem.W.mg_none_of X G A.z_int, PySem.W.mg_none_of X G A.z_bool, PySem.W.mg_none_of X G A.z_str, PySem.W.mg_none_of X G A.z_isinstance, PySem.W.mg_none_of X G A.z_all, PySem.W.mg_none_of X G A.z_zip, PySem.W.mg_none_of X G A.z_range, PySem.W.mg_none_of X G A.z_max, PySem.W.mg_none_of X G A.z_list, PySem.W.mg_none_of X G A.z_enumerate, PySem.W.mg_none_of X G A.z_repr, PySem.W.mg_none_of X G A.z_sorted, PySem.W.mg_none_of X G A.z_abs⟩
theorem fn_is_integer (X : K.In h) (G : h.Ns mainGlobals mg) (A : Tops K) : Fn K mg "is_integer" s_is_integer ["value"] := fn_at X G A.f_is_integer (fun _ _ _ _ _ _ us hl => match us, hl with | [_], _ => rfl) (fun _ _ _ _ _ _ => kw_no (by decide))
theorem fn_need_count (X : K.In h) (G : h.Ns mainGlobals mg) (A : Tops K) : Fn K mg "need_count" s_need_count ["number", "low", "high"] := fn_at X G A.f_need_count (fun _ _ _ _ _ _ us hl => match us, hl with | [_, _, _], _ => rfl) (fun _ _ _ _ _ _ => kw_no (by decide))
theorem fn_is_ascending (X : K.In h) (G : h.Ns mainGlobals mg) (A : Tops K) : Fn K mg "is_ascending" s_is_ascending ["value", "number"] := fn_at X G A.f_is_ascending (fun _ _ _ _ _ _ us hl => match us, hl with | [_, _], _ => rfl) (fun _ _ _ _ _ _ => kw_no (by decide))
theorem fn_need_glasses (X : K.In h) (G : h.Ns mainGlobals mg) (A : Tops K) : Fn K mg "need_glasses" s_need_glasses ["glasses", "number"] := fn_at X G A.f_need_glasses (fun _ _ _ _ _ _ us hl => match us, hl with | [_, _], _ => rfl) (fun _ _ _ _ _ _ => kw_no (by decide))
theorem fn_need_faint (X : K.In h) (G : h.Ns mainGlobals mg) (A : Tops K) : Fn K mg "need_faint" s_need_faint ["faint"] := fn_at X G A.f_need_faint (fun _ _ _ _ _ _ us hl => match us, hl with | [_], _ => rfl) (fun _ _ _ _ _ _ => kw_no (by decide))
theorem fn_need_numbers (X : K.In h) (G : h.Ns mainGlobals mg) (A : Tops K) : Fn K mg "need_numbers" s_need_numbers ["number", "most"] := fn_at X G A.f_need_numbers (fun _ _ _ _ _ _ us hl => match us, hl with | [_, _], _ => rfl) (fun _ _ _ _ _ _ => kw_no (by decide))
theorem fn_is_bad (X : K.In h) (G : h.Ns mainGlobals mg) (A : Tops K) : Fn K mg "is_bad" s_is_bad ["glass", "spoilt", "faint"] := fn_at X G A.f_is_bad (fun _ _ _ _ _ _ us hl => match us, hl with | [_, _, _], _ => rfl) (fun _ _ _ _ _ _ => kw_no (by decide))
theorem fn_told_by (X : K.In h) (G : h.Ns mainGlobals mg) (A : Tops K) : Fn K mg "told_by" s_told_by ["glasses", "spoilt", "faint"] := fn_at X G A.f_told_by (fun _ _ _ _ _ _ us hl => match us, hl with | [_, _, _], _ => rfl) (fun _ _ _ _ _ _ => kw_no (by decide))
theorem fn_every_set (X : K.In h) (G : h.Ns mainGlobals mg) (A : Tops K) : Fn K mg "every_set" s_every_set ["number", "most"] := fn_at X G A.f_every_set (fun _ _ _ _ _ _ us hl => match us, hl with | [_, _], _ => rfl) (fun _ _ _ _ _ _ => kw_no (by decide))
theorem fn_answers (X : K.In h) (G : h.Ns mainGlobals mg) (A : Tops K) : Fn K mg "answers" s_answers ["glasses", "spoilt", "faint"] := fn_at X G A.f_answers (fun _ _ _ _ _ _ us hl => match us, hl with | [_, _, _], _ => rfl) (fun _ _ _ _ _ _ => kw_no (by decide))
theorem fn_alike_pair (X : K.In h) (G : h.Ns mainGlobals mg) (A : Tops K) : Fn K mg "alike_pair" s_alike_pair ["number", "most", "glasses", "faint"] := fn_at X G A.f_alike_pair (fun _ _ _ _ _ _ us hl => match us, hl with | [_, _, _, _], _ => rfl) (fun _ _ _ _ _ _ => kw_no (by decide))
theorem fn_finds (X : K.In h) (G : h.Ns mainGlobals mg) (A : Tops K) : Fn K mg "finds" s_finds ["number", "most", "glasses", "faint"] := fn_at X G A.f_finds (fun _ _ _ _ _ _ us hl => match us, hl with | [_, _, _, _], _ => rfl) (fun _ _ _ _ _ _ => kw_no (by decide))
theorem fn_fitting (X : K.In h) (G : h.Ns mainGlobals mg) (A : Tops K) : Fn K mg "fitting" s_fitting ["number", "most", "glasses", "faint", "told"] := fn_at X G A.f_fitting (fun _ _ _ _ _ _ us hl => match us, hl with | [_, _, _, _, _], _ => rfl) (fun _ _ _ _ _ _ => kw_no (by decide))
theorem fn_unlike_glasses (X : K.In h) (G : h.Ns mainGlobals mg) (A : Tops K) : Fn K mg "unlike_glasses" s_unlike_glasses ["number", "sets", "faint"] := fn_at X G A.f_unlike_glasses (fun _ _ _ _ _ _ us hl => match us, hl with | [_, _, _], _ => rfl) (fun _ _ _ _ _ _ => kw_no (by decide))
theorem fn_parted (X : K.In h) (G : h.Ns mainGlobals mg) (A : Tops K) : Fn K mg "parted" s_parted ["blocks", "told"] := fn_at X G A.f_parted (fun _ _ _ _ _ _ us hl => match us, hl with | [_, _], _ => rfl) (fun _ _ _ _ _ _ => kw_no (by decide))
theorem fn_chosen (X : K.In h) (G : h.Ns mainGlobals mg) (A : Tops K) : Fn K mg "chosen" s_chosen ["glasses", "start", "blocks", "left"] := fn_at X G A.f_chosen (fun _ _ _ _ _ _ us hl => match us, hl with | [_, _, _, _], _ => rfl) (fun _ _ _ _ _ _ => kw_no (by decide))
theorem fn_best_glasses (X : K.In h) (G : h.Ns mainGlobals mg) (A : Tops K) : Fn K mg "best_glasses" s_best_glasses ["number", "most", "faint"] := fn_at X G A.f_best_glasses (fun _ _ _ _ _ _ us hl => match us, hl with | [_, _, _], _ => rfl) (fun _ _ _ _ _ _ => kw_no (by decide))
theorem fn_fewest_glasses (X : K.In h) (G : h.Ns mainGlobals mg) (A : Tops K) : Fn K mg "fewest_glasses" s_fewest_glasses ["number", "most", "faint"] := fn_at X G A.f_fewest_glasses (fun _ _ _ _ _ _ us hl => match us, hl with | [_, _, _], _ => rfl) (fun _ _ _ _ _ _ _ => ⟨rfl, fun _ _ _ => rfl⟩)
theorem fn_some_glasses (X : K.In h) (G : h.Ns mainGlobals mg) (A : Tops K) : Fn K mg "some_glasses" s_some_glasses ["number", "most", "faint"] := fn_at X G A.f_some_glasses (fun _ _ _ _ _ _ us hl => match us, hl with | [_, _, _], _ => rfl) (fun _ _ _ _ _ _ _ => ⟨rfl, fun _ _ _ => rfl⟩)
theorem fn_tree_within (X : K.In h) (G : h.Ns mainGlobals mg) (A : Tops K) : Fn K mg "tree_within" s_tree_within ["glasses", "block", "left"] := fn_at X G A.f_tree_within (fun _ _ _ _ _ _ us hl => match us, hl with | [_, _, _], _ => rfl) (fun _ _ _ _ _ _ => kw_no (by decide))
theorem fn_least_tree (X : K.In h) (G : h.Ns mainGlobals mg) (A : Tops K) : Fn K mg "least_tree" s_least_tree ["number", "most", "faint"] := fn_at X G A.f_least_tree (fun _ _ _ _ _ _ us hl => match us, hl with | [_, _, _], _ => rfl) (fun _ _ _ _ _ _ => kw_no (by decide))
theorem fn_fewest_in_turn (X : K.In h) (G : h.Ns mainGlobals mg) (A : Tops K) : Fn K mg "fewest_in_turn" s_fewest_in_turn ["number", "most", "faint"] := fn_at X G A.f_fewest_in_turn (fun _ _ _ _ _ _ us hl => match us, hl with | [_, _, _], _ => rfl) (fun _ _ _ _ _ _ _ => ⟨rfl, fun _ _ _ => rfl⟩)
theorem fn_turn_tree (X : K.In h) (G : h.Ns mainGlobals mg) (A : Tops K) : Fn K mg "turn_tree" s_turn_tree ["number", "most", "faint"] := fn_at X G A.f_turn_tree (fun _ _ _ _ _ _ us hl => match us, hl with | [_, _, _], _ => rfl) (fun _ _ _ _ _ _ _ => ⟨rfl, fun _ _ _ => rfl⟩)
theorem fn__law_deck (X : K.In h) (G : h.Ns mainGlobals mg) (A : Tops K) : Fn K mg "_law_deck" s__law_deck ["_law_script"] := fn_at X G A.f__law_deck (fun _ _ _ _ _ _ us hl => match us, hl with | [_], _ => rfl) (fun _ _ _ _ _ _ => kw_no (by decide))
theorem fn__law_draw (X : K.In h) (G : h.Ns mainGlobals mg) (A : Tops K) : Fn K mg "_law_draw" s__law_draw ["_law_deck_here", "_law_bound"] := fn_at X G A.f__law_draw (fun _ _ _ _ _ _ us hl => match us, hl with | [_, _], _ => rfl) (fun _ _ _ _ _ _ => kw_no (by decide))
theorem fn__law_sets (X : K.In h) (G : h.Ns mainGlobals mg) (A : Tops K) : Fn K mg "_law_sets" s__law_sets ["_law_number", "_law_most"] := fn_at X G A.f__law_sets (fun _ _ _ _ _ _ us hl => match us, hl with | [_, _], _ => rfl) (fun _ _ _ _ _ _ => kw_no (by decide))
theorem fn__law_bad (X : K.In h) (G : h.Ns mainGlobals mg) (A : Tops K) : Fn K mg "_law_bad" s__law_bad ["_law_glass", "_law_spoilt", "_law_faint"] := fn_at X G A.f__law_bad (fun _ _ _ _ _ _ us hl => match us, hl with | [_, _, _], _ => rfl) (fun _ _ _ _ _ _ => kw_no (by decide))
theorem fn__law_answers (X : K.In h) (G : h.Ns mainGlobals mg) (A : Tops K) : Fn K mg "_law_answers" s__law_answers ["_law_glasses", "_law_spoilt", "_law_faint"] := fn_at X G A.f__law_answers (fun _ _ _ _ _ _ us hl => match us, hl with | [_, _, _], _ => rfl) (fun _ _ _ _ _ _ => kw_no (by decide))
theorem fn__law_integer (X : K.In h) (G : h.Ns mainGlobals mg) (A : Tops K) : Fn K mg "_law_integer" s__law_integer ["_law_value"] := fn_at X G A.f__law_integer (fun _ _ _ _ _ _ us hl => match us, hl with | [_], _ => rfl) (fun _ _ _ _ _ _ => kw_no (by decide))
theorem fn__law_are_glasses (X : K.In h) (G : h.Ns mainGlobals mg) (A : Tops K) : Fn K mg "_law_are_glasses" s__law_are_glasses ["_law_value", "_law_number"] := fn_at X G A.f__law_are_glasses (fun _ _ _ _ _ _ us hl => match us, hl with | [_, _], _ => rfl) (fun _ _ _ _ _ _ => kw_no (by decide))
theorem fn__law_columns (X : K.In h) (G : h.Ns mainGlobals mg) (A : Tops K) : Fn K mg "_law_columns" s__law_columns ["_law_number", "_law_sets_here", "_law_faint"] := fn_at X G A.f__law_columns (fun _ _ _ _ _ _ us hl => match us, hl with | [_, _, _], _ => rfl) (fun _ _ _ _ _ _ => kw_no (by decide))
theorem fn__law_part (X : K.In h) (G : h.Ns mainGlobals mg) (A : Tops K) : Fn K mg "_law_part" s__law_part ["_law_blocks", "_law_row"] := fn_at X G A.f__law_part (fun _ _ _ _ _ _ us hl => match us, hl with | [_, _], _ => rfl) (fun _ _ _ _ _ _ => kw_no (by decide))
theorem fn__law_can (X : K.In h) (G : h.Ns mainGlobals mg) (A : Tops K) : Fn K mg "_law_can" s__law_can ["_law_blocks", "_law_columns_here", "_law_many"] := fn_at X G A.f__law_can (fun _ _ _ _ _ _ us hl => match us, hl with | [_, _, _], _ => rfl) (fun _ _ _ _ _ _ => kw_no (by decide))
theorem fn__law_can_in_turn (X : K.In h) (G : h.Ns mainGlobals mg) (A : Tops K) : Fn K mg "_law_can_in_turn" s__law_can_in_turn ["_law_block", "_law_columns_here", "_law_many"] := fn_at X G A.f__law_can_in_turn (fun _ _ _ _ _ _ us hl => match us, hl with | [_, _, _], _ => rfl) (fun _ _ _ _ _ _ => kw_no (by decide))
theorem fn__law_tree_right (X : K.In h) (G : h.Ns mainGlobals mg) (A : Tops K) : Fn K mg "_law_tree_right" s__law_tree_right ["_law_tree", "_law_sets_here", "_law_number", "_law_faint", "_law_left"] := fn_at X G A.f__law_tree_right (fun _ _ _ _ _ _ us hl => match us, hl with | [_, _, _, _, _], _ => rfl) (fun _ _ _ _ _ _ => kw_no (by decide))
theorem fn__law_row_right (X : K.In h) (G : h.Ns mainGlobals mg) (A : Tops K) : Fn K mg "_law_row_right" s__law_row_right ["_law_number", "_law_most", "_law_faint", "_law_sets_here", "_law_columns_here"] := fn_at X G A.f__law_row_right (fun _ _ _ _ _ _ us hl => match us, hl with | [_, _, _, _, _], _ => rfl) (fun _ _ _ _ _ _ => kw_no (by decide))
theorem fn_law (X : K.In h) (G : h.Ns mainGlobals mg) (A : Tops K) : Fn K mg "law" s_law ["_law_script"] := fn_at X G A.f_law (fun _ _ _ _ _ _ us hl => match us, hl with | [_], _ => rfl) (fun _ _ _ _ _ _ => kw_no (by decide))
theorem law_all {c P0 : Addr} {fa : Addr} (X : K.In h) (G : h.Ns mainGlobals mg) (A : Tops K) (hc : ∀ (f : Addr) (o : Obj) (fd : FuncData), mg "_law_sets" = some (.ref f) → K.lookup f = some o → o.data = .func fd → fd.code = .ref c) (TB : TabB base mg c P0) (hfa : mg "law" = some (.ref fa)) :
    ∃ fd : FuncData, Fun K "law" "law" s_law fa fd ∧ Binds K fd ["_law_script"] [] ∧ FnG P w K mg base 13 fa fd ["_law_script"] (spLaw K mg base) := by
  have T := txt_of X G A
  have M_is_integer := fn_is_integer X G A
  have M_need_count := fn_need_count X G A
  have M_is_ascending := fn_is_ascending X G A
  have M_need_glasses := fn_need_glasses X G A
  have M_need_faint := fn_need_faint X G A
  have M_need_numbers := fn_need_numbers X G A
  have M_is_bad := fn_is_bad X G A
  have M_told_by := fn_told_by X G A
  have M_every_set := fn_every_set X G A
  have M_answers := fn_answers X G A
  have M_alike_pair := fn_alike_pair X G A
  have M_finds := fn_finds X G A
  have M_fitting := fn_fitting X G A
  have M_unlike_glasses := fn_unlike_glasses X G A
  have M_parted := fn_parted X G A
  have M_chosen := fn_chosen X G A
  have M_best_glasses := fn_best_glasses X G A
  have M_fewest_glasses := fn_fewest_glasses X G A
  have M_some_glasses := fn_some_glasses X G A
  have M_tree_within := fn_tree_within X G A
  have M_least_tree := fn_least_tree X G A
  have M_fewest_in_turn := fn_fewest_in_turn X G A
  have M_turn_tree := fn_turn_tree X G A
  have M__law_deck := fn__law_deck X G A
  have M__law_draw := fn__law_draw X G A
  have M__law_sets := fn__law_sets X G A
  have M__law_bad := fn__law_bad X G A
  have M__law_answers := fn__law_answers X G A
  have M__law_integer := fn__law_integer X G A
  have M__law_are_glasses := fn__law_are_glasses X G A
  have M__law_columns := fn__law_columns X G A
  have M__law_part := fn__law_part X G A
  have M__law_can := fn__law_can X G A
  have M__law_can_in_turn := fn__law_can_in_turn X G A
  have M__law_tree_right := fn__law_tree_right X G A
  have M__law_row_right := fn__law_row_right X G A
  have M_law := fn_law X G A
  have L_sets : FnL K mg base "_law_sets" s__law_sets ["_law_number", "_law_most"] := by
    obtain ⟨f, fd, F, hm, hb, hkw⟩ := M__law_sets.ex
    have hcode : fd.code = .ref c := by
      obtain ⟨oc, od, kV, doc, pm, an, cdv, ct, osl, e, lk, _⟩ := F.ex
      exact hc f _ fd hm lk rfl
    exact ⟨f, fd, c, P0, F, hm, hb, hkw, hcode, TB⟩
  have D_is_integer := w_is_integer (P := P) (w := w) (base := base) T M_is_integer
  have D__law_integer := w__law_integer (P := P) (w := w) (base := base) T M__law_integer
  have D_need_count := w_need_count T M_need_count D_is_integer
  have D_need_faint := w_need_faint T M_need_faint D_is_integer
  have D_need_numbers := w_need_numbers T M_need_numbers D_need_count
  have D_is_bad := w_is_bad (P := P) (w := w) (base := base) T M_is_bad
  have D_told_by := w_told_by T M_told_by D_is_bad
  have D__law_bad := w__law_bad (P := P) (w := w) (base := base) T M__law_bad
  have D__law_answers := w__law_answers T M__law_answers D__law_bad
  have D_is_ascending := w_is_ascending T M_is_ascending D_is_integer
  have D_need_glasses := w_need_glasses T M_need_glasses D_is_ascending
  have D_answers := w_answers T M_answers D_need_glasses D_is_ascending D_need_faint D_told_by
  have D_every_set := w_every_set (P := P) (w := w) (base := base) T M_every_set
  have D_parted := w_parted (P := P) (w := w) (base := base) T M_parted
  have D_unlike_glasses := w_unlike_glasses T M_unlike_glasses D_every_set D_is_bad
  have D_alike_pair := w_alike_pair T M_alike_pair D_need_numbers D_need_glasses D_need_faint D_told_by D_every_set
  have D_finds := w_finds T M_finds D_alike_pair
  have D_fitting := w_fitting T M_fitting D_need_numbers D_need_glasses D_need_faint D_told_by D_every_set
  have D_chosen := w_chosen T M_chosen D_parted 5
  have D_best_glasses := w_best_glasses T M_best_glasses D_every_set D_unlike_glasses D_chosen
  have D_some_glasses := w_some_glasses T M_some_glasses D_need_numbers D_need_faint D_best_glasses
  have D_fewest_glasses := w_fewest_glasses T M_fewest_glasses D_some_glasses
  have D_tree_within := w_tree_within (P := P) (w := w) (base := base) T M_tree_within 5
  have D_least_tree := w_least_tree T M_least_tree D_need_numbers D_need_faint D_every_set D_unlike_glasses D_tree_within
  have D_fewest_in_turn := w_fewest_in_turn T M_fewest_in_turn D_least_tree
  have D_turn_tree := w_turn_tree T M_turn_tree D_least_tree
  have D__law_part := w__law_part (P := P) (w := w) (base := base) T M__law_part
  have D__law_can := w__law_can T M__law_can D__law_part 5
  have D__law_can_in_turn := w__law_can_in_turn (P := P) (w := w) (base := base) T M__law_can_in_turn 5
  have D__law_sets := w__law_sets (P := P) (w := w) T L_sets
  have D__law_are_glasses := w__law_are_glasses T M__law_are_glasses D__law_sets
  have D__law_columns := w__law_columns T M__law_columns D__law_sets D__law_bad
  have D__law_tree_right := w__law_tree_right T M__law_tree_right D__law_sets D__law_are_glasses D_answers D__law_bad 5
  have D__law_row_right := w__law_row_right T M__law_row_right D_fewest_glasses D_some_glasses D__law_integer D__law_are_glasses D_finds D_alike_pair D_answers D__law_answers D_fitting D__law_can
  have D__law_draw := w__law_draw (P := P) (w := w) (base := base) T M__law_draw
  have L : LawDefs P w K mg base := ⟨D__law_draw, D__law_sets, D__law_columns, D__law_row_right, D_fewest_in_turn, D_turn_tree, D__law_integer, D_fewest_glasses, D__law_can_in_turn, D__law_tree_right, D_some_glasses, D_finds⟩
  obtain ⟨fD, fdD, FDk, hmD, hbD, _⟩ := M__law_deck.ex
  obtain ⟨f, fd, F, hm, hb, _⟩ := M_law.ex
  rw [hfa] at hm
  cases hm
  exact ⟨fd, F, hb, w_law T F L (w__law_deck T FDk) hmD FDk.kp hbD⟩
end
theorem walk_ofG {l : PySem.W.OpenLaw} {q : Program} {loose : List Str} {XP : (Str → Option Value) → Heap → Prop} {YP : World → Heap → Prop} {d dS : DefRec} {K : Params → PySem.W.Frag} {c P0 : Addr}
    (hn : l.most = some 63) (hdf : d.params.defaults = []) (hY : ∀ (w : World) (h : Heap), YP w h → (K w.params).In h) (hrec : (recsOf q).find? (fun e => e.name == ("_law_sets" : Str)) = some dS) (hname : d.name = "law")
    (ht : ∀ w : World, PySem.W.tabIn (K w.params) "_law_sets" = some (c, P0)) (hP : ∀ w : World, (K w.params).lookup P0 = none) (A : ∀ w : World, Tops (K w.params)) : PySem.W.WalkO q loose XP YP l.row.toRowW d [] (fun f vs => PySem.call f vs) := by
  refine Att.attach_callB hn hdf fun w s₀ s₁ mg mb fa o pm cd doc a vs ns G Y ho hd hcd hmg hobj hints hlen hbits hg => ?_
  have KX := hY w _ Y
  rw [hname] at hmg
  obtain ⟨C, hT⟩ := PySem.W.tab_of G.T KX hrec (ht w)
  have hc : ∀ (f : Addr) (o : Obj) (fd : FuncData), mg "_law_sets" = some (.ref f) → (K w.params).lookup f = some o → o.data = .func fd → fd.code = .ref c := fun f o fd h1 h2 h3 => PySem.W.law_code KX G.T.g (ht w) h1 (KX f o h2) h3
  obtain ⟨f2, fd2, F2, hm2, _, _⟩ := (fn__law_sets KX G.T.g (A w)).ex
  obtain ⟨oc2, od2, kV2, doc2, pm2, an2, cdv2, ct2, osl2, e2, lk2, _⟩ := F2.ex
  obtain ⟨fL, fdL, FL, hmL, hbL, _⟩ := (fn_law KX G.T.g (A w)).ex
  rw [hmg] at hmL
  cases hmL
  refine law_callG (fd := fdL) (k := 13) KX G.T.g G.T.b G.T.builtins G.T.nolimit hg hT (hP w) C G.T.bmain hobj hints hlen ⟨rfl, by decide, by decide⟩ hm2 lk2 rfl (hc f2 _ _ hm2 lk2 rfl) (fun base KB GB TB => ?_) (fun s u => ?_)
  · obtain ⟨fd', F', hb', FG⟩ := law_all (P := l.prog) (w := w) (base := base) KX G.T.g (A w) hc TB hmg
    have e : fd' = fdL := by
      obtain ⟨oc, od, kV, dc, pm', an, cdv, ct, osl, e1, lk, _⟩ := F'.ex
      obtain ⟨oc', od', kV', dc', pm'', an', cdv', ct', osl', e1', lk', _⟩ := FL.ex
      rw [lk] at lk'
      cases lk'
      rfl
    rw [← e]
    exact FG
  · obtain ⟨oc, od, kV, dc, pm', an, cdv, ct, osl, e1, lk, _⟩ := FL.ex
    subst e1
    exact .of_eq rfl
end C9
set_option Elab.async false
set_option linter.all false
set_option maxRecDepth 100000
open PySem PySem.W PyProof.Rows
set_option maxHeartbeats 0 in
theorem PySem.Challenge.cw_caskyears_k89_whole_fewest_glasses_holds : PySem.Challenge.rw_caskyears_k89_whole_fewest_glasses.Holds := by
  w_on; o_law; k_head; (case hw => w_witness2)
  k_fill
  refine' C9.walk_ofG (c := 236) (P0 := 234) (l := PySem.Challenge.rw_caskyears_k89_whole_fewest_glasses) rfl rfl (fun w h Y => PySem.W.km_in_of Y) rfl rfl (fun w => by kernel_rfl) (fun w => by kernel_rfl) ?A
  case A =>
    intro w
    refine' ⟨?f_is_integer, ?f_need_count, ?f_is_ascending, ?f_need_glasses, ?f_need_faint, ?f_need_numbers, ?f_is_bad, ?f_told_by, ?f_every_set, ?f_answers, ?f_alike_pair, ?f_finds, ?f_fitting, ?f_unlike_glasses, ?f_parted, ?f_chosen, ?f_best_glasses, ?f_fewest_glasses, ?f_some_glasses, ?f_tree_within, ?f_least_tree, ?f_fewest_in_turn, ?f_turn_tree, ?f__law_deck, ?f__law_draw, ?f__law_sets, ?f__law_bad, ?f__law_answers, ?f__law_integer, ?f__law_are_glasses, ?f__law_columns, ?f__law_part, ?f__law_can, ?f__law_can_in_turn, ?f__law_tree_right, ?f__law_row_right, ?f_law, ?z_len, ?z_tuple, ?z_int, ?z_bool, ?z_str, ?z_isinstance, ?z_all, ?z_zip, ?z_range, ?z_max, ?z_list, ?z_enumerate, ?z_repr, ?z_sorted, ?z_abs⟩
    case f_is_integer => (refine' C9.fnAt_mk ?a ?l ?c ?k; (case a => k_is); (case l => k_is); (case c => k_is); (case k => k_is))
    case f_need_count => (refine' C9.fnAt_mk ?a ?l ?c ?k; (case a => k_is); (case l => k_is); (case c => k_is); (case k => k_is))
    case f_is_ascending => (refine' C9.fnAt_mk ?a ?l ?c ?k; (case a => k_is); (case l => k_is); (case c => k_is); (case k => k_is))
    case f_need_glasses => (refine' C9.fnAt_mk ?a ?l ?c ?k; (case a => k_is); (case l => k_is); (case c => k_is); (case k => k_is))
    case f_need_faint => (refine' C9.fnAt_mk ?a ?l ?c ?k; (case a => k_is); (case l => k_is); (case c => k_is); (case k => k_is))
    case f_need_numbers => (refine' C9.fnAt_mk ?a ?l ?c ?k; (case a => k_is); (case l => k_is); (case c => k_is); (case k => k_is))
    case f_is_bad => (refine' C9.fnAt_mk ?a ?l ?c ?k; (case a => k_is); (case l => k_is); (case c => k_is); (case k => k_is))
    case f_told_by => (refine' C9.fnAt_mk ?a ?l ?c ?k; (case a => k_is); (case l => k_is); (case c => k_is); (case k => k_is))
    case f_every_set => (refine' C9.fnAt_mk ?a ?l ?c ?k; (case a => k_is); (case l => k_is); (case c => k_is); (case k => k_is))
    case f_answers => (refine' C9.fnAt_mk ?a ?l ?c ?k; (case a => k_is); (case l => k_is); (case c => k_is); (case k => k_is))
    case f_alike_pair => (refine' C9.fnAt_mk ?a ?l ?c ?k; (case a => k_is); (case l => k_is); (case c => k_is); (case k => k_is))
    case f_finds => (refine' C9.fnAt_mk ?a ?l ?c ?k; (case a => k_is); (case l => k_is); (case c => k_is); (case k => k_is))
    case f_fitting => (refine' C9.fnAt_mk ?a ?l ?c ?k; (case a => k_is); (case l => k_is); (case c => k_is); (case k => k_is))
    case f_unlike_glasses => (refine' C9.fnAt_mk ?a ?l ?c ?k; (case a => k_is); (case l => k_is); (case c => k_is); (case k => k_is))
    case f_parted => (refine' C9.fnAt_mk ?a ?l ?c ?k; (case a => k_is); (case l => k_is); (case c => k_is); (case k => k_is))
    case f_chosen => (refine' C9.fnAt_mk ?a ?l ?c ?k; (case a => k_is); (case l => k_is); (case c => k_is); (case k => k_is))
    case f_best_glasses => (refine' C9.fnAt_mk ?a ?l ?c ?k; (case a => k_is); (case l => k_is); (case c => k_is); (case k => k_is))
    case f_fewest_glasses => (refine' C9.fnAt_mk ?a ?l ?c ?k; (case a => k_is); (case l => k_is); (case c => k_is); (case k => k_is))
    case f_some_glasses => (refine' C9.fnAt_mk ?a ?l ?c ?k; (case a => k_is); (case l => k_is); (case c => k_is); (case k => k_is))
    case f_tree_within => (refine' C9.fnAt_mk ?a ?l ?c ?k; (case a => k_is); (case l => k_is); (case c => k_is); (case k => k_is))
    case f_least_tree => (refine' C9.fnAt_mk ?a ?l ?c ?k; (case a => k_is); (case l => k_is); (case c => k_is); (case k => k_is))
    case f_fewest_in_turn => (refine' C9.fnAt_mk ?a ?l ?c ?k; (case a => k_is); (case l => k_is); (case c => k_is); (case k => k_is))
    case f_turn_tree => (refine' C9.fnAt_mk ?a ?l ?c ?k; (case a => k_is); (case l => k_is); (case c => k_is); (case k => k_is))
    case f__law_deck => (refine' C9.fnAt_mk ?a ?l ?c ?k; (case a => k_is); (case l => k_is); (case c => k_is); (case k => k_is))
    case f__law_draw => (refine' C9.fnAt_mk ?a ?l ?c ?k; (case a => k_is); (case l => k_is); (case c => k_is); (case k => k_is))
    case f__law_sets => (refine' C9.fnAt_mk ?a ?l ?c ?k; (case a => k_is); (case l => k_is); (case c => k_is); (case k => k_is))
    case f__law_bad => (refine' C9.fnAt_mk ?a ?l ?c ?k; (case a => k_is); (case l => k_is); (case c => k_is); (case k => k_is))
    case f__law_answers => (refine' C9.fnAt_mk ?a ?l ?c ?k; (case a => k_is); (case l => k_is); (case c => k_is); (case k => k_is))
    case f__law_integer => (refine' C9.fnAt_mk ?a ?l ?c ?k; (case a => k_is); (case l => k_is); (case c => k_is); (case k => k_is))
    case f__law_are_glasses => (refine' C9.fnAt_mk ?a ?l ?c ?k; (case a => k_is); (case l => k_is); (case c => k_is); (case k => k_is))
    case f__law_columns => (refine' C9.fnAt_mk ?a ?l ?c ?k; (case a => k_is); (case l => k_is); (case c => k_is); (case k => k_is))
    case f__law_part => (refine' C9.fnAt_mk ?a ?l ?c ?k; (case a => k_is); (case l => k_is); (case c => k_is); (case k => k_is))
    case f__law_can => (refine' C9.fnAt_mk ?a ?l ?c ?k; (case a => k_is); (case l => k_is); (case c => k_is); (case k => k_is))
    case f__law_can_in_turn => (refine' C9.fnAt_mk ?a ?l ?c ?k; (case a => k_is); (case l => k_is); (case c => k_is); (case k => k_is))
    case f__law_tree_right => (refine' C9.fnAt_mk ?a ?l ?c ?k; (case a => k_is); (case l => k_is); (case c => k_is); (case k => k_is))
    case f__law_row_right => (refine' C9.fnAt_mk ?a ?l ?c ?k; (case a => k_is); (case l => k_is); (case c => k_is); (case k => k_is))
    case f_law => (refine' C9.fnAt_mk ?a ?l ?c ?k; (case a => k_is); (case l => k_is); (case c => k_is); (case k => k_is))
    case z_len => k_is
    case z_tuple => k_is
    case z_int => k_is
    case z_bool => k_is
    case z_str => k_is
    case z_isinstance => k_is
    case z_all => k_is
    case z_zip => k_is
    case z_range => k_is
    case z_max => k_is
    case z_list => k_is
    case z_enumerate => k_is
    case z_repr => k_is
    case z_sorted => k_is
    case z_abs => k_is
