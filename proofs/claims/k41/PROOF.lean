import PyProof.Rows.All
import Wide.All
import OpenK.AllK
import Wide.FinOn
import KE.KStateDown
import KE.SortData
import KE.KDictPairs
import KE.GoesEnum
import KE.KDictCopyH
import KE.KDictItemsList
import HandS.ForMost
import HandS.More
import HandS.Words
import HandS.WordsExc
import HandS.Defaults
import HandS.Conv
import HandS.DictComp
import HandS.DictTup
import HandS.ListItems
import HandS.NoneIn
import HandS.Style
import HandS.TupAny
import HandS.IsInst
import HandS.Small
import HandS.Zip
import HandS.Walk
import HandS.Wide
import HandS.DeepEq
import HandS.Codes
import HandS.Flow
import HandS.Finally
import HandS.Head0
import HandS.Head1
import HandS.Head2
import HandS.HeadEnd
import HandS.HeadHook1
import HandS.HeadHook2
import PySem.Challenge.RW_fillerfed_k41_whole_runs_held_back
set_option Elab.async false
set_option linter.all false
set_option maxRecDepth 100000
set_option maxHeartbeats 0
namespace K41
open PySem PySem.Spec PyProof.Rows L2
def top (i : Nat) : Stmt := PySem.Challenge.pw_fillerfed_k41_whole_runs_held_back.main.body.getD i (.Pass ⟨0, 0, 0, 0⟩)
abbrev s_names_of : Stmt := top 5
abbrev s_machine_of : Stmt := top 6
abbrev s_time_of : Stmt := top 7
abbrev s_purses_of : Stmt := top 8
abbrev s_arcs_of : Stmt := top 10
abbrev s_start_of : Stmt := top 11
abbrev s_end_of : Stmt := top 12
abbrev s_growth_of : Stmt := top 13
abbrev s_does_end : Stmt := top 14
abbrev s_is_integer : Stmt := top 16
abbrev s_is_count : Stmt := top 17
abbrev s_still_arcs : Stmt := top 19
abbrev s_least_back : Stmt := top 20
abbrev s_dead_ring : Stmt := top 21
abbrev s_rise : Stmt := top 22
abbrev s_ticks_at : Stmt := top 24
abbrev s_links_of : Stmt := top 25
abbrev s_told_by : Stmt := top 26
abbrev s_is_kept : Stmt := top 27
abbrev s_is_run : Stmt := top 28
abbrev s_is_earlier : Stmt := top 29
abbrev s_greatest_run : Stmt := top 30
abbrev s_least_run : Stmt := top 31
abbrev s_led : Stmt := top 32
abbrev s_held_back : Stmt := top 33
abbrev s_floors_of : Stmt := top 34
abbrev s__law_bag : Stmt := top 36
abbrev s__law_take : Stmt := top 37
abbrev s__law_mixed : Stmt := top 38
abbrev s__law_some : Stmt := top 39
abbrev s__law_purses : Stmt := top 40
abbrev s__law_first : Stmt := top 41
abbrev s__law_web : Stmt := top 42
abbrev s__law_names : Stmt := top 43
abbrev s__law_arcs : Stmt := top 44
abbrev s__law_is_live : Stmt := top 45
abbrev s__law_hall : Stmt := top 46
abbrev s__law_small : Stmt := top 47
abbrev s__law_stops : Stmt := top 48
abbrev s__law_any_stops : Stmt := top 49
abbrev s__law_floors : Stmt := top 50
abbrev s__law_alike : Stmt := top 51
abbrev s__law_rows : Stmt := top 52
abbrev s__law_machine : Stmt := top 53
abbrev s__law_work : Stmt := top 54
abbrev s__law_held_run : Stmt := top 55
abbrev s__law_is_int : Stmt := top 56
abbrev s__law_counts : Stmt := top 57
abbrev s__law_runs_right : Stmt := top 58
abbrev s__law_is_run : Stmt := top 59
abbrev s_law : Stmt := top 60
end K41
/-! heaps, data, comprehensions in general -/
namespace K41
open PySem PySem.Spec PyProof.Rows L2
/-! ### heaps -/
/-- all that stood stands, but what S tells -/
def Sx (S : Addr → Prop) (H H' : Hp) : Prop := ∀ a o, ¬ S a → H a = some o → H' a = some o
def S0 : Addr → Prop := fun _ => False
def S1 (b : Addr) : Addr → Prop := fun a => a = b
theorem Sx.refl {S : Addr → Prop} (H : Hp) : Sx S H H := fun _ _ _ h => h
theorem Sx.trans {S : Addr → Prop} {H H1 H2 : Hp} (a : Sx S H H1) (b : Sx S H1 H2) : Sx S H H2 := fun c o n h => b c o n (a c o n h)
theorem Sx.new {S : Addr → Prop} {H : Hp} {p : Addr} {o : HO} (h : H p = none) : Sx S H (upd H p o) := fun b x _ e => by
  rw [upd_ne (ne_of_none e h)]
  exact e
/-- an object that is new since H changes -/
theorem Sx.mut {S : Addr → Prop} {H H' : Hp} {p : Addr} {o : HO} (s : Sx S H H') (h : H p = none) : Sx S H (upd H' p o) := fun b x n e => by
  rw [upd_ne (ne_of_none e h)]
  exact s b x n e
theorem Sx.at {S : Addr → Prop} {H H' : Hp} {p : Addr} {o : HO} (s : Sx S H H') (h : S p) : Sx S H (upd H' p o) := fun b x n e => by
  rw [upd_ne (fun z => n (by rw [z]; exact h))]
  exact s b x n e
theorem same_sx {S : Addr → Prop} {H H' : Hp} (s : Same H H') : Sx S H H' := fun b o _ e => s b o e
theorem sx_same {H H' : Hp} (s : Sx S0 H H') : Same H H' := fun b o e => s b o (fun z => z) e
theorem _root_.L2.Same.new {H : Hp} {p : Addr} {o : HO} (h : H p = none) : Same H (upd H p o) := sx_same (Sx.new h)
theorem _root_.L2.Same.mut {H H' : Hp} {p : Addr} {o : HO} (s : Same H H') (h : H p = none) : Same H (upd H' p o) := sx_same (Sx.mut (same_sx s) h)
theorem _root_.L2.Same.sqt {K : PySem.W.Frag} {H H' : Hp} {a : Addr} {xs : List V} (e : Same H H') (h : SqT K H a xs) : SqT K H' a xs := by
  rcases h with (h | ⟨o, h⟩) | h
  · exact .inl (.inl (e _ _ h))
  · exact .inl (.inr ⟨o, e _ _ h⟩)
  · exact .inr h
/-- the tuples stand -/
def TK (H H' : Hp) : Prop := ∀ a xs, H a = some (.tup xs) → H' a = some (.tup xs)
theorem TK.refl (H : Hp) : TK H H := fun _ _ h => h
theorem TK.trans {H H1 H2 : Hp} (a : TK H H1) (b : TK H1 H2) : TK H H2 := fun c o h => b c o (a c o h)
theorem _root_.L2.Same.tk {H H' : Hp} (s : Same H H') : TK H H' := fun a xs h => s a _ h
theorem Sx.tk {S : Addr → Prop} {H H' : Hp} (s : Sx S H H') (hS : ∀ a xs, S a → H a ≠ some (.tup xs)) : TK H H' := fun a xs h => s a _ (fun z => hS a xs z h) h
theorem TK.new {H : Hp} {p : Addr} {o : HO} (h : H p = none) : TK H (upd H p o) := Same.tk (Same.new h)
theorem TK.lst {H : Hp} {p : Addr} {o : HO} {xs : List V} (h : H p = some (.lst xs)) : TK H (upd H p o) := fun a ys e => by
  rw [upd_ne (ne_of e h (by intro z; cases z))]
  exact e
theorem ne_tl {H : Hp} {a b : Addr} {xs ys : List V} (h : H a = some (.tup xs)) (h' : H b = some (.lst ys)) : a ≠ b := ne_of h h' (by intro z; cases z)

/-! ### data in tuples that stand -/
mutual
inductive Tv (H : Hp) : V → PyData → Prop
  | non : Tv H .non .none
  | bl (b : Bool) : Tv H (.bl b) (.bool b)
  | int (i : Int) : Tv H (.int i) (.int i)
  | str (x : Str) : Tv H (.str x) (.str x)
  | tup {a : Addr} {xs : List V} {ds : List PyData} : H a = some (.tup xs) → TvAll H xs ds → Tv H (.ref a) (.tuple ds)
inductive TvAll (H : Hp) : List V → List PyData → Prop
  | nil : TvAll H [] []
  | cons {v : V} {vs : List V} {d : PyData} {ds : List PyData} : Tv H v d → TvAll H vs ds → TvAll H (v :: vs) (d :: ds)
end
mutual
theorem Tv.mono {H H' : Hp} (k : TK H H') : ∀ (d : PyData) (v : V), Tv H v d → Tv H' v d
  | .none, _, h => by cases h; exact .non
  | .bool _, _, h => by cases h; exact .bl _
  | .int _, _, h => by cases h; exact .int _
  | .str _, _, h => by cases h; exact .str _
  | .list _, _, h => by cases h
  | .tuple ds, _, h => by
    cases h with
    | tup hs ha => exact .tup (k _ _ hs) (TvAll.mono k ds _ ha)
  | .dict _, _, h => by cases h
theorem TvAll.mono {H H' : Hp} (k : TK H H') : ∀ (ds : List PyData) (vs : List V), TvAll H vs ds → TvAll H' vs ds
  | [], _, h => by cases h; exact .nil
  | d :: ds, _, h => by
    cases h with
    | cons h1 h2 => exact .cons (Tv.mono k d _ h1) (TvAll.mono k ds _ h2)
end
theorem Tv.m {H H' : Hp} {v : V} {d : PyData} (h : Tv H v d) (k : TK H H') : Tv H' v d := Tv.mono k d v h
theorem TvAll.m {H H' : Hp} {v : List V} {d : List PyData} (h : TvAll H v d) (k : TK H H') : TvAll H' v d := TvAll.mono k d v h
mutual
theorem Tv.dpx {K : PySem.W.Frag} {H : Hp} : ∀ (d : PyData) (v : V), Tv H v d → Dp K H v d
  | .none, _, h => by cases h; exact .non
  | .bool _, _, h => by cases h; exact .bl _
  | .int _, _, h => by cases h; exact .int _
  | .str _, _, h => by cases h; exact .str _
  | .list _, _, h => by cases h
  | .tuple ds, _, h => by
    cases h with
    | tup hs ha => exact .tup (SqT.of hs) (TvAll.dpx ds _ ha)
  | .dict _, _, h => by cases h
theorem TvAll.dpx {K : PySem.W.Frag} {H : Hp} : ∀ (ds : List PyData) (vs : List V), TvAll H vs ds → DpAll K H vs ds
  | [], _, h => by cases h; exact .nil
  | d :: ds, _, h => by
    cases h with
    | cons h1 h2 => exact .cons (Tv.dpx d _ h1) (TvAll.dpx ds _ h2)
end
theorem Tv.dp {K : PySem.W.Frag} {H : Hp} {v : V} {d : PyData} (h : Tv H v d) : Dp K H v d := Tv.dpx d v h
theorem TvAll.dp {K : PySem.W.Frag} {H : Hp} {v : List V} {d : List PyData} (h : TvAll H v d) : DpAll K H v d := TvAll.dpx d v h
theorem Tv.int_inv {H : Hp} {v : V} {i : Int} (h : Tv H v (.int i)) : v = .int i := by cases h; rfl
theorem Tv.str_inv {H : Hp} {v : V} {x : Str} (h : Tv H v (.str x)) : v = .str x := by cases h; rfl
theorem Tv.bl_inv {H : Hp} {v : V} {x : Bool} (h : Tv H v (.bool x)) : v = .bl x := by cases h; rfl
theorem Tv.tup_inv {H : Hp} {v : V} {ds : List PyData} (h : Tv H v (.tuple ds)) : ∃ a xs, v = .ref a ∧ H a = some (.tup xs) ∧ TvAll H xs ds := by
  cases h with
  | tup hs ha => exact ⟨_, _, rfl, hs, ha⟩
theorem TvAll.len {H : Hp} : ∀ {vs : List V} {ds : List PyData}, TvAll H vs ds → vs.length = ds.length
  | _, _, .nil => rfl
  | _, _, .cons _ t => congrArg (· + 1) (TvAll.len t)
theorem TvAll.get {H : Hp} : ∀ {vs : List V} {ds : List PyData} {i : Nat} {d : PyData}, TvAll H vs ds → ds[i]? = some d → ∃ v, vs[i]? = some v ∧ Tv H v d
  | _, _, _, _, .nil, e => by simp at e
  | _, _, 0, _, .cons h _, e => by
    simp at e
    subst e
    exact ⟨_, rfl, h⟩
  | _, _, i + 1, _, .cons _ t, e => by
    obtain ⟨v, h1, h2⟩ := TvAll.get (i := i) t (by simpa using e)
    exact ⟨v, by simpa using h1, h2⟩
theorem TvAll.getV {H : Hp} : ∀ {vs : List V} {ds : List PyData} {i : Nat} {v : V}, TvAll H vs ds → vs[i]? = some v → ∃ d, ds[i]? = some d ∧ Tv H v d
  | _, _, _, _, .nil, e => by simp at e
  | _, _, 0, _, .cons h _, e => by
    simp at e
    subst e
    exact ⟨_, rfl, h⟩
  | _, _, i + 1, _, .cons _ t, e => by
    obtain ⟨v, h1, h2⟩ := TvAll.getV (i := i) t (by simpa using e)
    exact ⟨v, by simpa using h1, h2⟩
theorem TvAll.append {H : Hp} : ∀ {vs ws : List V} {ds es : List PyData}, TvAll H vs ds → TvAll H ws es → TvAll H (vs ++ ws) (ds ++ es)
  | _, _, _, _, .nil, h => h
  | _, _, _, _, .cons a t, h => .cons a (TvAll.append t h)
theorem TvAll.ints {H : Hp} : ∀ ns : List Int, TvAll H (ns.map V.int) (ns.map PyData.int)
  | [] => .nil
  | n :: ns => .cons (.int n) (TvAll.ints ns)
theorem TvAll.strs {H : Hp} : ∀ ns : List Str, TvAll H (ns.map V.str) (ns.map PyData.str)
  | [] => .nil
  | n :: ns => .cons (.str n) (TvAll.strs ns)
theorem TvAll.ints_inv {H : Hp} : ∀ {ns : List Int} {vs : List V}, TvAll H vs (ns.map PyData.int) → vs = ns.map V.int
  | [], _, h => by cases h; rfl
  | n :: ns, _, h => by
    cases h with
    | cons h1 h2 =>
      rw [Tv.int_inv h1, TvAll.ints_inv h2]
      rfl
theorem TvAll.strs_inv {H : Hp} : ∀ {ns : List Str} {vs : List V}, TvAll H vs (ns.map PyData.str) → vs = ns.map V.str
  | [], _, h => by cases h; rfl
  | n :: ns, _, h => by
    cases h with
    | cons h1 h2 =>
      rw [Tv.str_inv h1, TvAll.strs_inv h2]
      rfl
theorem TvAll.of_get {H : Hp} : ∀ {vs : List V} {ds : List PyData}, vs.length = ds.length → (∀ (i : Nat) (v : V) (d : PyData), vs[i]? = some v → ds[i]? = some d → Tv H v d) → TvAll H vs ds
  | [], [], _, _ => .nil
  | [], _ :: _, h, _ => by simp at h
  | _ :: _, [], h, _ => by simp at h
  | v :: vs, d :: ds, h, f => .cons (f 0 v d rfl rfl) (TvAll.of_get (by simpa using h) fun i v d a b => f (i + 1) v d (by simpa using a) (by simpa using b))

/-! ### lists of things -/
theorem Paired.get {α β : Type} {R : α → β → Prop} : ∀ {xs : List α} {ys : List β} {i : Nat} {x : α}, Paired R xs ys → xs[i]? = some x → ∃ y, ys[i]? = some y ∧ R x y
  | _, _, _, _, .nil, e => by simp at e
  | _, _, 0, _, .cons h _, e => by
    simp at e
    subst e
    exact ⟨_, rfl, h⟩
  | _, _, i + 1, _, .cons _ t, e => by
    obtain ⟨v, h1, h2⟩ := Paired.get (i := i) t (by simpa using e)
    exact ⟨v, by simpa using h1, h2⟩
theorem Paired.getR {α β : Type} {R : α → β → Prop} : ∀ {xs : List α} {ys : List β} {i : Nat} {y : β}, Paired R xs ys → ys[i]? = some y → ∃ x, xs[i]? = some x ∧ R x y
  | _, _, _, _, .nil, e => by simp at e
  | _, _, 0, _, .cons h _, e => by
    simp at e
    subst e
    exact ⟨_, rfl, h⟩
  | _, _, i + 1, _, .cons _ t, e => by
    obtain ⟨v, h1, h2⟩ := Paired.getR (i := i) t (by simpa using e)
    exact ⟨v, by simpa using h1, h2⟩
theorem Paired.snoc {α β : Type} {R : α → β → Prop} {x : α} {y : β} : ∀ {xs : List α} {ys : List β}, Paired R xs ys → R x y → Paired R (xs ++ [x]) (ys ++ [y])
  | _, _, .nil, h => .cons h .nil
  | _, _, .cons a t, h => .cons a (Paired.snoc t h)
theorem Paired.append {α β : Type} {R : α → β → Prop} : ∀ {xs : List α} {ys : List β} {xs' : List α} {ys' : List β}, Paired R xs ys → Paired R xs' ys' → Paired R (xs ++ xs') (ys ++ ys')
  | _, _, _, _, .nil, h => h
  | _, _, _, _, .cons a t, h => .cons a (Paired.append t h)
theorem Paired.mem {α β : Type} {R : α → β → Prop} {y : β} : ∀ {xs : List α} {ys : List β}, Paired R xs ys → y ∈ ys → ∃ x ∈ xs, R x y
  | _, _, .nil, h => by cases h
  | _, _, .cons a t, h => by
    rcases List.mem_cons.mp h with rfl | h
    · exact ⟨_, List.mem_cons_self, a⟩
    · obtain ⟨x, h1, h2⟩ := Paired.mem t h
      exact ⟨x, List.mem_cons_of_mem _ h1, h2⟩
theorem Paired.tv {H : Hp} {α : Type} {f : α → PyData} : ∀ {xs : List α} {ys : List V}, Paired (fun x y => Tv H y (f x)) xs ys → TvAll H ys (xs.map f)
  | _, _, .nil => .nil
  | _, _, .cons a t => .cons a (Paired.tv t)
theorem TvAll.paired {H : Hp} {α : Type} {f : α → PyData} : ∀ {xs : List α} {ys : List V}, TvAll H ys (xs.map f) → Paired (fun x y => Tv H y (f x)) xs ys
  | [], _, h => by cases h; exact .nil
  | x :: xs, _, h => by
    cases h with
    | cons h1 h2 => exact .cons h1 (TvAll.paired h2)
theorem Paired.eqmap {α : Type} {f : α → V} : ∀ {xs : List α} {ys : List V}, Paired (fun x y => y = f x) xs ys → ys = xs.map f
  | _, _, .nil => rfl
  | _, _, .cons a t => by rw [a, Paired.eqmap t]; rfl
theorem Paired.map_left {α β γ : Type} {f : α → β} {R : β → γ → Prop} : ∀ {xs : List α} {ys : List γ}, Paired (fun x y => R (f x) y) xs ys → Paired R (xs.map f) ys
  | _, _, .nil => .nil
  | _, _, .cons a t => .cons a (Paired.map_left t)
theorem small {n : Nat} (h : n ≤ 100000) : n ≤ sizeLine := Nat.le_trans h (by decide)
theorem smallL {n : Nat} (h : n ≤ 100000) : n < sizeLine := Nat.lt_of_le_of_lt h (by decide)
theorem range_succ_filter (n : Nat) (f : Nat → Bool) : (List.range (n + 1)).filter f = (List.range n).filter f ++ (if f n = true then [n] else []) := by
  rw [List.range_succ, List.filter_append]
  cases h : f n <;> simp [h]
theorem filter_range_le (n : Nat) (f : Nat → Bool) : ((List.range n).filter f).length ≤ n := by
  have h := List.length_filter_le f (List.range n)
  rw [List.length_range] at h
  exact h

/-! ### a comprehension in general: turns 0 .. n - 1, keep which, Gi what the i-th kept gives; S what it may change -/
theorem lc_gen {J : It} {n : Nat} {Gd : Hp → Prop} {Y : Nat → Hp → V → Hp → Prop} (w : Walk J n Gd Y) {g : TG} {tt : TT} {te : TE} {vs : List Nat} {σ : L2.St} {H1 : Hp} {D : Addr} {Qd : Hp → Prop} (hD : H1 D = none)
    (S : Addr → Prop) (hS : ∀ a, S a → H1 a ≠ none) (Iv : Hp → Prop) (hI : Iv H1) (hIu : ∀ H D o, H1 D = none → Iv H → Iv (upd H D o)) (hG : ∀ H, Sx S H1 H → Iv H → Gd H) (hT : ∀ H H', Iv H → Sx S H H' → TK H H')
    (keep : Nat → Bool) (Gi : Nat → V → Hp → Prop) (mono : ∀ i y H H', TK H H' → Gi i y H → Gi i y H') (hn : n ≤ 50000)
    (step : ∀ i x H H', i < n → Sx S H1 H → Iv H → Y i H x H' → ∀ (N : Hp → Prop) (R : V → Hp → Prop), (∀ H3, Sx S H H3 → Iv H3 → keep i = false → N H3) → (∀ y H4, Sx S H H4 → Iv H4 → keep i = true → Gi i y H4 → R y H4) →
      g x (wipe σ vs) H' fun σ2 H2 => wipe σ2 vs = wipe σ vs ∧ tt σ2 H2 fun b H3 => if b = true then te σ2 H3 R else N H3)
    (done : ∀ H' ys, Sx S H1 H' → Iv H' → H' D = some (.lst ys) → Paired (fun i y => Gi i y H') ((List.range n).filter keep) ys → Qd H') :
    ∃ W : Nat → Nat → Hp → Prop, (∃ m, W 0 m (upd H1 D (.lst []))) ∧ ∀ i m H, W i m H → (J.stop i H ∧ Qd H) ∨ (J.go i H ∧ ∃ Nx : Hp → Prop, (∀ H', Nx H' → ∃ m', m' < m ∧ W (i + 1) m' H') ∧ ∀ x H', J.yld i H x H' → g x (wipe σ vs) H' fun σ2 H2 => wipe σ2 vs = wipe σ vs ∧ tt σ2 H2 fun b H3 =>
      if b = true then te σ2 H3 fun y H4 => ∃ acc, H4 D = some (.lst acc) ∧ acc.length < sizeLine ∧ Nx (upd H4 D (.lst (acc ++ [y]))) else Nx H3) := by
  have nS : ¬ S D := fun z => hS D z hD
  refine lc_it w (fun i H => Sx S H1 H ∧ Iv H ∧ ∃ ys, H D = some (.lst ys) ∧ Paired (fun i y => Gi i y H) ((List.range i).filter keep) ys) ⟨Sx.new hD, hIu _ _ _ hD hI, [], upd_same, .nil⟩ (fun i H _ p => hG H p.1 p.2.1) ?_ (fun H ⟨s, iv, ys, e, p⟩ => done H ys s iv e p)
  rintro i x H H' hi ⟨s, iv, ys, eD, p⟩ hy
  refine step i x H H' hi s iv hy _ _ (fun H3 s3 iv3 hk => ?_) (fun y H4 s4 iv4 hk gy => ?_)
  · refine ⟨s.trans s3, iv3, ys, s3 D _ nS eD, ?_⟩
    rw [range_succ_filter, hk]
    show Paired (fun i y => Gi i y H3) (_ ++ []) ys
    rw [List.append_nil]
    exact Paired.mapP p fun j z q => mono j z _ _ (hT _ _ iv s3) q
  · have hl : ys.length ≤ i := by
      rw [← Paired.length p]
      exact filter_range_le _ _
    have eD4 := s4 D _ nS eD
    have tk : TK H4 (upd H4 D (.lst (ys ++ [y]))) := TK.lst eD4
    refine ⟨ys, eD4, smallL (by omega), (s.trans s4).mut hD, hIu _ _ _ hD iv4, ys ++ [y], upd_same, ?_⟩
    rw [range_succ_filter, hk]
    exact Paired.snoc (Paired.mapP p fun j z q => mono j z _ _ ((hT _ _ iv s4).trans tk) q) (mono i y _ _ tk gy)
end K41
/-! rules that the layer lacks: items, <, sorted, ==, enumerate of a tuple -/
namespace K41
open PySem PySem.Spec PySem.W PySem.SeqAt PyProof.Rows L2
section
variable {X : Cx}
/-- xs[i] of a list, by values (0 ≤ i) -/
def gL : V → V → Hp → VK → Prop := fun o i H Q => ∃ (p : Addr) (xs : List V) (k : Nat) (v : V), o = .ref p ∧ i = .int (k : Int) ∧ H p = some (.lst xs) ∧ xs[k]? = some v ∧ Q v H
theorem get_list : PGet X gL := by
  intro pins s σ H o i ov iv Q I ro ri h
  obtain ⟨p, xs, k, v, rfl, rfl, hp, hk, q⟩ := h
  cases ro
  obtain ⟨t, rfl⟩ := ri
  obtain ⟨its, r, pl, hz⟩ := I.list (SqL.of hp)
  obtain ⟨u, eu, ru⟩ := r.get hk
  have hlt : k < xs.length := (List.getElem?_eq_some_iff.mp hk).1
  have hn := line63
  refine wpAny_getItem_list pl.isList (by omega) (by omega) (x := u) ?_ ⟨v, H, I, ru, q⟩
  simpa using eu
/-- an expression the proof never comes to -/
theorem pe_never {e : Expr} : PE X e (fun _ _ _ => False) := ⟨fun _ _ _ _ _ _ h => h.elim⟩
/-- < of data -/
def rLtD (K : PySem.W.Frag) : R2 := fun x y H Q => ∃ d e, Dp K H x d ∧ Dp K H y e ∧ alike d e = true ∧ d ≠ .none ∧ min d.depth e.depth ≤ 60 ∧ Q (.bl (dataLt d e)) H
theorem op_ltD (hu : X.A.units + 64 < cLine) : OpR X (compareOp .Lt) (rLtD X.K) := by
  intro pins s σ H x y v u Q I rx ry h
  obtain ⟨d, e, hd, he, al, nn, dp, q⟩ := h
  obtain ⟨as, r1⟩ := Dp.reads I d x v hd rx
  obtain ⟨bs, r2⟩ := Dp.reads I e y u he ry
  exact rcLt_alike d e X.A s v u as bs r1 r2 al nn (by omega) _ _ _ _ ⟨.bl _, H, I, rfl, q⟩
/-- sorted of a list of data in tuples -/
def rSortD (K : PySem.W.Frag) : List V → Hp → VK → Prop := fun vs H Q => ∃ (a : Addr) (xs : List V) (ds : List PyData), vs = [.ref a] ∧ SqL K H a xs ∧ TvAll H xs ds ∧ AllAlike ds ∧ Sortable ds ∧ (∀ d ∈ ds, d.depth ≤ 60) ∧
  ∀ (ys : List V) (p : Addr), H p = none → TvAll H ys (ds.mergeSort (dataLe false fun d => d)) → Q (.ref p) (upd H p (.lst ys))
theorem each_of_tv {K : PySem.W.Frag} {H : Hp} : ∀ {xs : List V} {ds : List PyData} {us : List Value}, Vals xs us → TvAll H xs ds → EachIs (fun u d => ∃ x, RelV x u ∧ Tv H x d) us ds
  | _, _, _, .nil, .nil => .nil
  | _, _, _, .cons r t, .cons a b => .cons ⟨_, r, a⟩ (each_of_tv (K := K) t b)
theorem tv_of_each {H : Hp} : ∀ {us : List Value} {ds : List PyData}, EachIs (fun u d => ∃ x, RelV x u ∧ Tv H x d) us ds → ∃ xs, Vals xs us ∧ TvAll H xs ds
  | _, _, .nil => ⟨[], .nil, .nil⟩
  | _, _, .cons ⟨x, r, a⟩ t => by
    obtain ⟨xs, h1, h2⟩ := tv_of_each t
    exact ⟨x :: xs, .cons r h1, .cons a h2⟩
theorem cr_sortD (hu : X.A.units + 80 < cLine) : CallR X (.builtin "sorted") (rSortD X.K) := by
  intro pins s σ H vs us Q I r h
  obtain ⟨a, xs, ds, rfl, hs, tv, al, so, dp, q⟩ := h
  obtain ⟨its, rv, hl, hz⟩ := I.list hs
  rw [Vals.ref1 r]
  have e := each_of_tv (K := X.K) rv tv
  have er : EachIs (fun v b => ∃ as, Reads s.heap v ((fun d : PyData => d) b) as) its ds := e.mono fun v d ⟨x, rx, tx⟩ => Dp.reads I d x v tx.dp rx
  have hm : ds.map (fun d : PyData => d) = ds := List.map_id' ds
  refine sorted_data (enc := fun d : PyData => d) hl.isList e er (by rw [hm]; exact al) (by rw [hm]; exact so) (by rw [← tv.len]; exact hz) (fun d hd => by have := dp d hd; show X.A.units + 2 + d.depth < cLine; omega) fun out hlen eo => ?_
  obtain ⟨ys, v1, v2⟩ := tv_of_each eo
  obtain ⟨ep, he'⟩ := PyProof.Rows.sortedAll_at s.heap its out.toArray
  have hlY : ys.length ≤ sizeLine := by
    rw [v1.length, hlen, ← tv.len]
    exact hz
  exact ⟨.ref _, upd H (s.heap.objs.size + 1) (.lst ys), I.laid (t' := s.toks) (fun _ _ => PyProof.Rows.sortedAll_old) (Nat.le_succ _) ⟨hlY, out, ep, v1, he'⟩, rfl, q _ _ (I.hok.fresh (Nat.le_succ _)) v2⟩
/-! ### == of dicts of data, of lists of such -/
/-- the same data -/
def SameD (H : Hp) (x y : V) : Prop := ∃ d, Tv H x d ∧ Tv H y d ∧ d.canLay0 = true ∧ d.depth ≤ 20
theorem sameD_run {pins : List (Addr × Obj)} {σ : L2.St} {H : Hp} {s : Shared} (I : Inv X pins σ H s) {A : Around} (hu : A.units + 40 < cLine) (x y : V) (v u : Value) (h : SameD H x y) (rx : RelV x v) (ry : RelV y u) : SeqAt.EqP X.prog X.w A s v u true := by
  obtain ⟨d, h1, h2, hc, hd⟩ := h
  obtain ⟨as, r1⟩ := Dp.reads I d x v h1.dp rx
  obtain ⟨bs, r2⟩ := Dp.reads I d y u h2.dp ry
  have q := eqAt_reads d d A s v u as bs r1 r2 hc hc (by omega)
  rw [eqv_refl d hc] at q
  exact q.eqP
theorem eqRef_run {pins : List (Addr × Obj)} {σ : L2.St} {H : Hp} {s : Shared} {F : V → V → Prop} (I : Inv X pins σ H s) {A : Around} (hu : A.units < cLine) (ih : ∀ x y v u, F x y → RelV x v → RelV y u → SeqAt.EqP X.prog X.w A.in1 s v u true)
    (x y : V) (v u : Value) (h : EqR X.K H F x y) (rx : RelV x v) (ry : RelV y u) : SeqAt.EqP X.prog X.w A s v u true := by
  have step := eqR_run I (A := A) hu ih h rx ry
  obtain ⟨a, b, rfl, rfl⟩ : ∃ a b, x = .ref a ∧ y = .ref b := by
    rcases h with ⟨a, b, _, _, e1, e2, _⟩ | ⟨a, b, _, _, e1, e2, _⟩
    · exact ⟨a, b, e1, e2⟩
    · exact ⟨a, b, e1, e2⟩
  cases (show v = Value.ref a from rx)
  cases (show u = Value.ref b from ry)
  by_cases e : a = b
  · subst e
    exact (SeqAt.EqAt.same _).eqP
  · exact SeqAt.eqP_refs e step
/-- two dicts of the same data, or two lists of such, told equal -/
def EqDs (K : PySem.W.Frag) (H : Hp) (x y : V) : Prop := EqR K H (SameD H) x y ∨ EqR K H (EqR K H (SameD H)) x y
def rEqDs (K : PySem.W.Frag) : R2 := fun x y H Q => EqDs K H x y ∧ Q (.bl true) H
theorem op_eqDs (hu : X.A.units + 80 < cLine) : OpR X (compareOp .Eq) (rEqDs X.K) := by
  intro pins s σ H x y v u Q I rx ry h
  obtain ⟨h, q⟩ := h
  rcases h with h | h
  · exact eqR_run I (A := X.A) (by omega) (fun x y v u f rx ry => sameD_run I (by show X.A.units + 1 + 40 < cLine; omega) x y v u f rx ry) h rx ry _ _ ⟨.bl true, H, I, rfl, q⟩
  · refine eqR_run I (A := X.A) (by omega) (fun x y v u f rx ry => eqRef_run I (by show X.A.units + 1 < cLine; omega) (fun x y v u f rx ry => sameD_run I (by show X.A.units + 1 + 1 + 40 < cLine; omega) x y v u f rx ry) x y v u f rx ry) h rx ry _ _ ⟨.bl true, H, I, rfl, q⟩
end
/-! ### enumerate of a tuple -/
def IteT (K : PySem.W.Frag) (a : Addr) : It :=
  ⟨fun i H => ∃ (xs : List V) (x : V), SqT K H a xs ∧ xs[i]? = some x, fun i H v H' => ∃ T x, v = .ref T ∧ H T = none ∧ H' = upd H T (.tup [.int (i : Nat), x]) ∧ ∀ xs, SqT K H a xs → xs[i]? = some x, fun i H => ∃ xs : List V, SqT K H a xs ∧ xs.length ≤ i⟩
theorem turn_enumT {P : Program} {w : World} {K : PySem.W.Frag} {elts : List Expr} {kk : Nat} {tpos : Pos} (a e it : Addr) :
    Turn P w K (.Tuple elts kk tpos) (IteT K a) [e, it] e (fun i h => (∃ old, IsEnum h e it ((i : Nat) : Int) old) ∧ h.IsTupleIter it a i ∧ e ≠ it) where
  mem := by simp
  obj := fun i h st b hb => by
    obtain ⟨⟨old, he⟩, ⟨o, ho, hc, hd⟩, _⟩ := st
    rcases (by simpa using hb : b = e ∨ b = it) with z | z
    · subst z
      exact ⟨_, he, fun v q => nomatch q⟩
    · subst z
      exact ⟨o, ho, fun v q => by rw [hd] at q; cases q⟩
  keep := fun i h h' st k => let ⟨⟨old, he⟩, hi, hne⟩ := st; ⟨⟨old, k e (by simp) _ he⟩, hi.at fun o q => k it (by simp) o q, hne⟩
  item := by
    intro X hP hw hK hc i pins s σ H E I hf st hg
    subst hP hw hK
    obtain ⟨⟨old, he⟩, hit, hne⟩ := st
    obtain ⟨xs, x, hq, hx⟩ := hg
    obtain ⟨its, rv, p, hz⟩ := I.tuple hq
    obtain ⟨u, hu, ru⟩ := rv.get hx
    have hel : e < s.heap.objs.size := Heap.lt_size he
    have hil : it < s.heap.objs.size := by obtain ⟨_, q, _⟩ := hit; exact Heap.lt_size q
    have hlt : i < its.toArray.size := by
      have := (List.getElem?_eq_some_iff.mp hu).1
      simpa using this
    have pa : s.heap.IsTuple a its.toArray := p
    have hai : a ≠ it := by
      rintro rfl
      obtain ⟨o1, q1, c1, d1⟩ := hit
      obtain ⟨o2, q2, c2, _⟩ := pa
      rw [q1] at q2
      cases q2
      rw [c1] at c2
      exact absurd (Value.type.inj c2) (by decide)
    have hae : a ≠ e := by
      rintro rfl
      obtain ⟨o2, q2, c2, _⟩ := pa
      rw [he] at q2
      cases q2
      exact absurd (Value.type.inj c2) (by decide)
    refine wpAny_pyNext_enum_itemD (Draws.tuple (prog := X.prog) (w := X.w) (A := X.A.in1) (I.ok.hd hc) it a hai its.toArray) he ⟨hit, pa⟩ hlt hne (by simp [hne, Ne.symm hae]) fun u' h' tk hP' ho hst' hT hsz hk => ?_
    have eu : u' = u := by
      have q : its.toArray[i]? = some u' := hP'
      have q2 : its.toArray[i]? = some u := by simpa using hu
      rw [q] at q2
      exact Option.some.inj q2
    subst eu
    have hit' := hst'.1
    refine ⟨_, rfl, wpAny_letOwnedTupleGo_enum (s := { s with heap := h', toks := tk + 1 }) ho fun h'' he' sb => ?_⟩
    have hT2 : h''.get? s.heap.objs.size = some { cls := .type "tuple", data := .seq #[.int i tk, u'] } := (sb.2 _ (Nat.ne_of_gt hel)).trans hT
    have new : ObjOk X.prog X.w (upd H s.heap.objs.size (.tup [.int (i : Nat), x])) h'' s.heap.objs.size (.tup [.int (i : Nat), x]) :=
      ⟨by show 2 ≤ sizeLine; decide, [.int i tk, u'], .cons ⟨_, rfl⟩ (.cons ru .nil), ⟨_, hT2, rfl, _, rfl⟩⟩
    have I1 : Inv X pins σ (upd H s.heap.objs.size (.tup [.int (i : Nat), x])) { s with heap := h'', toks := tk + 1 } :=
      I.turnedNew (ch := [e, it]) (fun b ob hb q => (sb.2 b (fun z => hb (by simp [z]))).trans (hk b ob (fun z => hb (by simp [z])) (fun z => hb (by simp [z])) q)) hf (Nat.le_refl _) new
    refine ⟨.ref s.heap.objs.size, _, I1, rfl, ⟨_, x, rfl, I.hok.fresh (Nat.le_refl _), rfl, fun ys hy => by rw [I.tuple_inj hy hq]; exact hx⟩, ⟨⟨u', ?_⟩, hit'.at fun o q => (sb.2 it (Ne.symm hne)).trans q, hne⟩, fun b hb => ?_⟩
    · rw [show ((i + 1 : Nat) : Int) = (i : Int) + 1 by omega]
      exact he'
    · have hb' : b < s.heap.objs.size := by
        rcases (by simpa using hb : b = e ∨ b = it) with z | z
        · rw [z]; exact hel
        · rw [z]; exact hil
      rw [upd_ne (Nat.ne_of_lt hb')]
      exact (hf b hb).1
  done := by
    intro X hP hw hK hc i pins s σ H E I hf st hg
    subst hP hw hK
    obtain ⟨⟨old, he⟩, hit, hne⟩ := st
    obtain ⟨xs, hq, hx⟩ := hg
    obtain ⟨its, rv, p, hz⟩ := I.tuple hq
    obtain ⟨f0, f1, f2, f3, f4, f5⟩ := hf it (by simp)
    have hl := rv.length
    have hT : s.TypeIs (.ref e) "enumerate" := ⟨_, he, rfl⟩
    have pa : s.heap.IsTuple a its.toArray := p
    unfold pyNext
    refine wpAny_bind (wpAny_attempt (wpAny_callSpecial?_slot (name := Str.ofString "__next__") hT F.slot_enumerate_next (wpAny_call_entry F.slot_enumerate_next hT F.entry_enumerate_next ?_ (F.args_enumerate_next_1 _))))
    show wpAny _ _ (field (.ref e) 2 >>= _) _ _ _
    refine wpAny_bind (wpAny_field he rfl (x := .ref it) rfl (wpAny_bind (wpAny_nextOf_tuple_end (I.ok.hd hc) hit pa (by simp; omega) fun h' z hs' hz' => ?_)))
    obtain ⟨o, ho, hcl⟩ := hz'
    refine wpAny_bind (wpAny_isInstance (T := "StopIteration") (b := true) ⟨o, ho, hcl⟩ isSubtype_stop (wpAny_pure ?_))
    exact ⟨rfl, I.turned (t' := s.toks) (fun b o hb q => hs' b o hb q) f0 f1 f3 f4 f5⟩
  self := fun A i s Q E st h => let ⟨⟨_, he⟩, _⟩ := st; wpAny_pyIter_enum he h
theorem meets_enumT (l : Addr) (items : Array Value) :
    Meets (Builtin.«enumerate.__new__» ⟨[.type "enumerate", .ref l], []⟩) (fun _ R s => s.heap.IsTuple l items ∧
      R (.ok (.ret (.ref (s.heap.push { cls := .type "tuple_iterator", data := .fields #[.ref l, .int 0 0] }).objs.size)))
        { s with heap := (s.heap.push { cls := .type "tuple_iterator", data := .fields #[.ref l, .int 0 0] }).push { cls := .type "enumerate", data := .fields #[.none, .bool false, .ref s.heap.objs.size, rawInt 0, .none, .none] } }) :=
  .of_wp fun prog w A R s h => by
    obtain ⟨hp, g, d, tk, os⟩ := s
    obtain ⟨h1, h⟩ := h
    have hsub := sub_enumerate
    have q1 : ∀ {A' : Around} {E : Value → Shared → Prop} {Q : Value → Shared → Prop}, Q (.ref hp.objs.size) ⟨hp.push { cls := .type "tuple_iterator", data := .fields #[.ref l, .int 0 0] }, g, d, tk, os⟩ → wpAny (model prog w) A' (pyIter (.ref l)) Q E ⟨hp, g, d, tk, os⟩ :=
      fun q => wpAny_pyIter_tuple h1 q
    wp_walk using q1
    refine wpAny_stack_any fun st => wpAny_pure ?_
    split
    · rename_i c _ _ _ _ _
      cases (c == Value.type "enumerate") <;> (wp_walk using q1; exact ⟨_, rfl, h⟩)
    · wp_walk using q1
      exact ⟨_, rfl, h⟩
theorem call_enumT {prog : Program} {w : World} {A : Around} {E : Value → Shared → Prop} {s : Shared} {l : Addr} {items : Array Value} {Q : Value → Shared → Prop} (hL : s.heap.IsTuple l items)
    (h : ∀ h', IsEnum h' (s.heap.objs.size + 1) s.heap.objs.size 0 .none → h'.IsTupleIter s.heap.objs.size l 0 →
      (∀ b o, s.heap.get? b = some o → h'.get? b = some o) → Q (.ref (s.heap.objs.size + 1)) { s with heap := h' }) :
    wpAny (model prog w) A (call (.type "enumerate") [.ref l]) Q E s := by
  refine callType_new F.called_enumerate (by decide) (F.typeCall_enumerate_1 _) (F.newCall_enumerate_1 _) (fun obj => F.args_object_init_2 obj _) F.entry_enumerate_new (meets_enumT l items) ⟨hL, ?_⟩
  have hz : (s.heap.push { cls := .type "tuple_iterator", data := .fields #[.ref l, .int 0 0] }).objs.size = s.heap.objs.size + 1 := Heap.size_push ..
  show _ ∧ _
  rw [hz]
  have he : IsEnum ((s.heap.push { cls := .type "tuple_iterator", data := .fields #[.ref l, .int 0 0] }).push
      { cls := .type "enumerate", data := .fields #[.none, .bool false, .ref s.heap.objs.size, rawInt 0, .none, .none] }) (s.heap.objs.size + 1) s.heap.objs.size 0 .none := by
    have q := Heap.get?_push_size (s.heap.push { cls := .type "tuple_iterator", data := .fields #[.ref l, .int 0 0] })
      (o := { cls := .type "enumerate", data := .fields #[.none, .bool false, .ref s.heap.objs.size, rawInt 0, .none, .none] }) rfl
    rw [hz] at q
    exact q
  exact ⟨⟨_, he, rfl⟩, h _ he ⟨_, Heap.get?_push_of_some _ (Heap.get?_push_size _ rfl), rfl, rfl⟩ fun b o x => Heap.get?_push_of_some _ (Heap.get?_push_of_some _ x)⟩
def iEnumT (K : PySem.W.Frag) (ta : TA) : TI := fun σ H R => ta σ H fun vs H1 => ∃ a xs, vs = [.ref a] ∧ SqT K H1 a xs ∧ R (IteT K a) H1
theorem pi_enumT {X : Cx} {e : Expr} {ta : TA} {p pos tpos : Pos} {elts : List Expr} {kk : Nat} (hg : Gl X "enumerate") (hm : X.mg "enumerate" = none) (ha : PA X [e] ta) (hs : starEach [e] X.env = [(false, eval e X.env)] := by rfl) :
    PI X (.Tuple elts kk tpos) (.Call (.Name "enumerate" p) [e] [] pos) (iEnumT X.K ta) := by
  refine ⟨fun pins s σ H R I h => ?_⟩
  refine Call_ (ld_blt I hg hm boot_enumerate (PyProof.Rows.callWith_type1 (thn (ha.run pos pins s σ H _ I h) fun us s1 ⟨vs, H1, I1, r1, q1⟩ => ?_) hs rfl))
  obtain ⟨a, xs, ex, hq, q⟩ := q1
  subst ex
  obtain ⟨u, rfl, r⟩ := vals1 r1
  cases r
  obtain ⟨its, rv, p', hz⟩ := I1.tuple hq
  refine call_enumT (show s1.heap.IsTuple a its.toArray from p') fun h' he hit hk => wpAny_pyIter_enum he ?_
  have I2 : Inv X pins σ H1 { s1 with heap := h' } := I1.kept (t' := s1.toks) hk
  refine ⟨s1.heap.objs.size + 1, [s1.heap.objs.size + 1, s1.heap.objs.size], _, _, H1, rfl, I2, turn_enumT a (s1.heap.objs.size + 1) s1.heap.objs.size, ⟨⟨.none, he⟩, hit, Nat.succ_ne_self _⟩, fun b hb => ?_, q⟩
  have hle : s1.heap.objs.size ≤ b := by
    rcases (by simpa using hb : b = s1.heap.objs.size + 1 ∨ b = s1.heap.objs.size) with z | z
    · rw [z]
      exact Nat.le_succ _
    · rw [z]
      exact Nat.le_refl _
  exact I1.fpOk hle (I1.hok.fresh hle)
section
variable {K : PySem.W.Frag} {a b : Addr} {xs ys : List V}
theorem walk_enumT : Walk (IteT K a) xs.length (fun H => SqT K H a xs) (YPair (fun i => some (.int (i : Nat))) (fun i => xs[i]?)) := by
  refine ⟨fun i _ hi q => ⟨xs, xs[i], q, by simp [hi]⟩, fun _ q => ⟨xs, q, Nat.le_refl _⟩, fun i H v H' _ q y => ?_⟩
  obtain ⟨T, x, h1, h2, h3, h4⟩ := y
  exact ⟨T, .int (i : Nat), x, h1, h2, h3, rfl, h4 xs q⟩
theorem walk_zipT {n : Nat} (hn : n = min xs.length ys.length) : Walk (RZ.ItzT K a b) n (fun H => SqT K H a xs ∧ SqT K H b ys) (YPair (fun i => xs[i]?) (fun i => ys[i]?)) := by
  subst hn
  refine ⟨fun i _ hi q => ?_, fun _ q => ⟨xs, ys, q.1, q.2, by omega⟩, fun i H v H' _ q y => ?_⟩
  · have h1 : i < xs.length := by omega
    have h2 : i < ys.length := by omega
    exact ⟨xs, ys, xs[i], ys[i], q.1, q.2, by simp [h1], by simp [h2]⟩
  · obtain ⟨T, x, z, h1, h2, h3, h4, h5⟩ := y
    exact ⟨T, x, z, h1, h2, h3, h4 xs q.1, h5 ys q.2⟩
end
end K41
/-! dicts whose keys are tuples: made of a list of pairs, listed -/
namespace K41
open PySem PySem.Spec PyProof.Rows L2
/-- pairs put one after another: later ones win, the place is the first one's -/
def mrg {κ : Type} [DecidableEq κ] (kvs more : List (κ × V)) : List (κ × V) := more.foldl (fun acc kv => putK acc kv.1 kv.2) kvs
theorem mrg_len {κ : Type} [DecidableEq κ] : ∀ (more kvs : List (κ × V)), (mrg kvs more).length ≤ kvs.length + more.length
  | [], kvs => Nat.le_refl _
  | kv :: r, kvs => by
    show (mrg (putK kvs kv.1 kv.2) r).length ≤ _
    have h1 := mrg_len r (putK kvs kv.1 kv.2)
    have h2 := length_putK kvs kv.1 kv.2
    rw [List.length_cons]
    omega
theorem mrg_kt {H : Hp} : ∀ {more : List (List Key × V)} {ps : List (List Key × Addr × Value)} {kvs : List (List Key × V)} {xs : List (List Key × Addr × Value)}, KT H more ps → KT H kvs xs → KT H (mrg kvs more) (PySem.storedAllH xs ps)
  | _, _, _, _, .nil, h => h
  | _, _, _, _, .cons (a := p) (b := q) r t, h => by
    obtain ⟨k, b, v⟩ := q
    obtain ⟨e1, e2, e3⟩ := r
    have e1' : p.1 = k := e1
    subst e1'
    have q := mrg_kt t (KT.put h p.1 e2 e3)
    exact q
/-- a pair (key, value) of a list: the key's own tuple -/
def PairT (H : Hp) (p : Addr) (kv : List Key × V) : Prop := ∃ b, H p = some (.tup [.ref b, kv.2]) ∧ H b = some (.tup (kv.1.map kV))
section
variable {X : Cx}
theorem pairT_of {pins : List (Addr × Obj)} {σ : L2.St} {H : Hp} {s : Shared} (I : Inv X pins σ H s) : ∀ {ps : List Addr} {kvs : List (List Key × V)}, Paired (PairT H) ps kvs →
    ∃ xs : List (List Key × Addr × Value), KT H kvs xs ∧ xs.length = ps.length ∧ ∀ (j : Nat) (q : List Key × Addr × Value), xs[j]? = some q → ∃ p, ps[j]? = some p ∧ IsTup s.heap p #[.ref q.2.1, q.2.2]
  | _, _, .nil => ⟨[], .nil, rfl, fun j q e => by simp at e⟩
  | _, _, .cons (a := p) (b := kv) h t => by
    obtain ⟨xs, r, hl, hp⟩ := pairT_of I t
    obtain ⟨b, h1, h2⟩ := h
    obtain ⟨its, rv, ht, _⟩ := I.tuple (SqT.of h1)
    obtain ⟨u, y, ei, ru, ry⟩ := vals2 rv
    cases ru
    subst ei
    refine ⟨(kv.1, b, y) :: xs, .cons ⟨rfl, h2, ry⟩ r, by rw [List.length_cons, List.length_cons, hl], fun j q e => ?_⟩
    cases j with
    | zero =>
      have e' : (kv.1, b, y) = q := Option.some.inj e
      subst e'
      exact ⟨p, rfl, ht⟩
    | succ j =>
      obtain ⟨p', e1, e2⟩ := hp j q (by simpa using e)
      exact ⟨p', by simpa using e1, e2⟩
def rDictT (K : PySem.W.Frag) : List V → Hp → VK → Prop := fun xs H Q => ∃ (a : Addr) (ps : List Addr) (kvs : List (List Key × V)), xs = [.ref a] ∧ SqL K H a (ps.map V.ref) ∧ Paired (PairT H) ps kvs ∧
    ∀ p, H p = none → Q (.ref p) (upd H p (.dT (mrg [] kvs)))
theorem cr_dictT (hcalm : X.calm = true) (hu : X.A.units + 80 < cLine) : CallR X (.type "dict") (rDictT X.K) := by
  intro pins s σ H xs us Q I r q
  obtain ⟨a, ps, kvs, ex, hq, hp, q⟩ := q
  subst ex
  rw [Vals.ref1 r]
  obtain ⟨its, rv, pl, hz⟩ := I.list hq
  have ei := refs_at rv
  subst ei
  rw [List.length_map] at hz
  obtain ⟨ks, kt, hl, hks⟩ := pairT_of I hp
  obtain ⟨o, n, ho, hc, hd, hdat⟩ := pl
  have kis : ∀ {l : List (List Key × V)} {m : List (List Key × Addr × Value)}, KT H l m → ∀ x ∈ m, (tupleKind (mixKind X.prog X.w)).is s.heap x.1 x.2.1 := by
    intro l m h
    induction h with
    | nil => intro x hx; cases hx
    | @cons p q ps qs hq t ih =>
      intro x hx
      rcases List.mem_cons.mp hx with e | hx
      · rw [e, ← hq.1]
        exact key_of I.hok (by rw [hq.1, ← hq.1]; exact hq.2.1)
      · exact ih x hx
  have hmem : ∀ x ∈ ks, ∃ j, ks[j]? = some x := fun x hx => List.mem_iff_getElem?.mp hx
  refine PySem.call_dict_pairsH (knd := tupleKind (mixKind X.prog X.w)) (ps := ks) (PySem.PairArg.list a (ps.map Value.ref).toArray (fun j => ps.getD j 0) (ks.map fun x => (Value.ref x.2.1, x.2.2)))
    (I.ok.hd hcalm) (show X.A.units + 1 + 1 < cLine by omega) ⟨⟨o, n, ho, hc, hd, hdat⟩, by simp [hl], fun j k v e => ?_⟩ ⟨by simp, fun i key v e => ?_⟩ (fun h' hk x hx => ?_) (by simpa [hl] using hz) fun h' tk hd' hk => ?_
  · rw [List.getElem?_map] at e
    cases ej : ks[j]? with
    | none => rw [ej] at e; cases e
    | some x =>
      rw [ej] at e
      cases e
      obtain ⟨p, e1, e2⟩ := hks j x ej
      have e3 : ps.getD j 0 = p := by rw [List.getD_eq_getElem?_getD, e1]; rfl
      refine ⟨?_, .inl ?_⟩
      · simp [e1]
      · show s.heap.IsTuple (ps.getD j 0) _
        rw [e3]
        exact e2
  · have e' : (ks.map fun x => (Value.ref x.2.1, x.2.2))[i]? = some (key, v) := e
    rw [List.getElem?_map] at e'
    cases ej : ks[i]? with
    | none => rw [ej] at e'; cases e'
    | some x =>
      rw [ej] at e'
      cases e'
      exact ⟨x.1, x.2.1, rfl, rfl⟩
  · obtain ⟨o', its', n', h1, h2, h3, h4⟩ := kis kt x hx
    exact ⟨o', its', n', hk _ _ (Nat.ne_of_lt (Heap.lt_size h1)) (by simp) h1, h2, h3, h4⟩
  · have hm : (s.heap.objs.size == sysModules) = false := beq_eq_false_iff_ne.mpr (Nat.ne_of_gt I.big)
    have hlk : kvs.length = ps.length := (Paired.length hp).symm
    have hlen : (mrg [] kvs).length ≤ sizeLine := by
      refine Nat.le_trans (mrg_len kvs []) ?_
      rw [List.length_nil, Nat.zero_add, hlk]
      exact hz
    have hn : H s.heap.objs.size = none := I.hok.fresh (Nat.le_refl _)
    obtain ⟨o', es, ep, g1, g2, g3, g4, _, g6⟩ := hd'
    have kt' : KT (upd H s.heap.objs.size (.dT (mrg [] kvs))) (mrg [] kvs) (PySem.storedAllH [] ks) := (mrg_kt kt .nil).keeps (TK.new hn)
    exact ⟨.ref s.heap.objs.size, upd H s.heap.objs.size (.dT (mrg [] kvs)), I.laid (t' := tk) (fun b o e => hk b o (by simp) e) (Nat.le_refl _) ⟨hlen, hm, _, kt', o', es, ep, g1, g2, g3, g4, g6⟩, rfl, q _ hn⟩
/-- list(d.items()) of a dict whose keys are tuples -/
def rItemsT2 : V → Hp → VK → Prop := fun x H Q => ∃ (d : Addr) (kvs : List (List Key × V)), x = .ref d ∧ H d = some (.dT kvs) ∧
  ∀ (H' : Hp) (p : Addr) (ts : List Addr), Same H H' → H p = none → H' p = some (.lst (ts.map V.ref)) → Paired (PairT H') ts kvs → Q (.ref p) H'
def tListItemsT (te : TE) : TE := fun σ H Q => te σ H fun x H1 => rItemsT2 x H1 Q
theorem paired_of_get {α β : Type} {R : α → β → Prop} : ∀ {xs : List α} {ys : List β}, xs.length = ys.length → (∀ (i : Nat) (x : α) (y : β), xs[i]? = some x → ys[i]? = some y → R x y) → Paired R xs ys
  | [], [], _, _ => .nil
  | [], _ :: _, h, _ => by simp at h
  | _ :: _, [], h, _ => by simp at h
  | x :: xs, y :: ys, h, f => .cons (f 0 x y rfl rfl) (paired_of_get (by simpa using h) fun i x y a b => f (i + 1) x y (by simpa using a) (by simpa using b))
theorem nodup_get {l : List Addr} (h : l.Nodup) {i j : Nat} {a : Addr} (hi : l[i]? = some a) (hj : l[j]? = some a) : i = j := by
  obtain ⟨h1, e1⟩ := List.getElem?_eq_some_iff.mp hi
  obtain ⟨h2, e2⟩ := List.getElem?_eq_some_iff.mp hj
  exact (List.getElem_inj h).mp (e1.trans e2.symm)
theorem pe_listItemsT {e : Expr} {te : TE} {p apos cpos pos : Pos} (hc : X.calm = true) (he : PE X e te) (hg : Gl X "list") (hm : X.mg "list" = none) (hv : bootBuiltins "list" = some (.type "list")) (hbase : attributeBase e "items" X.env (eval e X.env) = eval e X.env := by rfl) (hline : (apos.endLine == cpos.line) = true := by rfl)
    (hs : starEach [.Call (.Attribute e "items" apos) [] [] cpos] X.env = (false, eval (.Call (.Attribute e "items" apos) [] [] cpos) X.env) :: starEach [] X.env := by rfl) :
    PE X (.Call (.Name "list" p) [.Call (.Attribute e "items" apos) [] [] cpos] [] pos) (tListItemsT te) := by
  refine ⟨fun pins s σ H Q I hq => ?_⟩
  refine wpAny_Call_Name_kw (ld_blt I hg hm hv (PyProof.Rows.callWith_type1 ?_ hs rfl))
  rw [hs]
  show wpAny _ _ (spliced ((false, eval (.Call (.Attribute e "items" apos) [] [] cpos) X.env) :: backTo pos (starEach [] X.env))) _ _ s
  refine Calls.spliced_cons (wpAny_Call_method (T := "dict") (id := "dict.items") hbase rfl hline F.plainAttrs_dict F.slot_dict_items F.type_dict_items (thn (he.run pins s σ H _ I hq) fun u s1 ⟨x, H1, I1, rx, d, kvs, ex, hd, q⟩ => ?_))
  subst ex
  obtain rfl : u = Value.ref d := rx
  obtain ⟨hz, hs0, xs, kt, o, es, ep, ho, hx, hdat, hes, _, hn⟩ := dt_of I1.hok hd
  have raw : s1.heap.DictRaw d es ep := ⟨o, ho, hx, hdat⟩
  have l1 : kvs.length = xs.length := Paired.length kt
  have l2 : es.size = xs.length := size_of_entries hes
  have I2 : Inv X pins σ H1 { s1 with heap := s1.heap.push { cls := .type "dict_items", data := .fields #[.ref d] } } := I1.kept (t' := s1.toks) fun b ob q => Heap.get?_push_of_some _ q
  refine ⟨raw.typeIs, ?_, ?_⟩
  · intro a ea
    cases ea
    exact ⟨o, ho, hx.2.1⟩
  show wpAny _ _ (callWith cpos (.builtin "dict.items") [.ref d] [] []) _ X.xe s1
  refine method_meetsIn F.slot_dict_items F.entry_dict_items rfl (PySem.evalArgs_none ⟨rfl, raw.typeIs, F.args_dict_items_1 _, _, meets_dict_items_raw d hs0, ⟨es, ep, raw⟩, ?_⟩)
  refine Calls.spliced_nil ?_
  refine PySem.W.dil_call (es := es) (ep := ep) (I1.ok.hd hc) ⟨_, Heap.get?_push_size _ rfl, rfl, rfl⟩ (raw.push _) (by rw [l2, ← l1]; exact hz) fun h' tk acc c as hk hS hl hG hacc => ?_
  have nd : as.Nodup := List.Pairwise.imp (fun {a b} (h : a < b) => Nat.ne_of_lt h) hG.rise
  have I4 := I2.laid (t' := tk) (a := (s1.heap.push { cls := .type "dict_items", data := .fields #[.ref d] }).objs.size) (o := .lst (as.map V.ref)) hk (Nat.le_refl _)
    ⟨by rw [List.length_map, hl, l2, ← l1]; exact hz, as.map Value.ref, c, LiI.vals_refs as, by rw [← hacc, Array.toArray_toList]; exact hS⟩
  have hSn : H1 (s1.heap.push { cls := .type "dict_items", data := .fields #[.ref d] }).objs.size = none := I2.hok.fresh (Nat.le_refl _)
  have ent : ∀ (j : Nat) (a : Addr), as[j]? = some a → ∃ (kv : List Key × V) (k : Addr) (v : Value), kvs[j]? = some kv ∧ H1 k = some (.tup (kv.1.map kV)) ∧ RelV kv.2 v ∧ h'.get? a = some { cls := .type "tuple", data := .seq #[.ref k, v] } := by
    intro j a hj
    obtain ⟨hje, hga⟩ := hG.pairs j a hj
    have hjx : j < xs.length := by omega
    have hjk : j < kvs.length := by omega
    obtain ⟨q, g1, g2, g3, g4⟩ := LiI.paired_get kt (List.getElem?_eq_getElem hjk)
    have e1 : es[j] = entryOfKey (tupleKind (mixKind X.prog X.w)) q := by
      have e2 : es.toList[j]? = (xs.map (entryOfKey (tupleKind (mixKind X.prog X.w))))[j]? := by rw [hes]
      rw [List.getElem?_map, g1, Array.getElem?_toList, Array.getElem?_eq_getElem hje] at e2
      exact Option.some.inj e2
    rw [e1] at hga
    exact ⟨kvs[j], q.2.1, q.2.2, List.getElem?_eq_getElem hjk, g3, g4, hga⟩
  obtain ⟨H2, I5, g, qq⟩ := DX.takeT (P := fun a vs => ∃ (j : Nat) (kv : List Key × V) (k : Addr), as[j]? = some a ∧ kvs[j]? = some kv ∧ H1 k = some (.tup (kv.1.map kV)) ∧ vs = [.ref k, kv.2]) I2 as _ I4 nd (fun a ha => by
    obtain ⟨j, hj⟩ := List.mem_iff_getElem?.mp ha
    obtain ⟨kv, k, v, e1, e2, e3, e4⟩ := ent j a hj
    have hlt := hG.above a ha
    refine ⟨Nat.le_of_lt hlt, ?_, [.ref k, kv.2], ⟨j, kv, k, hj, e1, e2, rfl⟩, fun H2 => ⟨by show 2 ≤ sizeLine; decide, [.ref k, v], .cons rfl (.cons e3 .nil), ⟨_, e4, rfl, _, rfl⟩⟩⟩
    rw [upd_ne (Nat.ne_of_gt hlt)]
    exact I2.hok.fresh (Nat.le_of_lt hlt))
  have sm : Same H1 H2 := fun b o e => g b o (by rw [upd_ne (ne_of_none e hSn)]; exact e)
  refine ⟨.ref _, H2, I5, rfl, q H2 _ as sm hSn (g _ _ upd_same) (paired_of_get (by rw [hl, l2, l1]) fun j a kv ha hkv => ?_)⟩
  obtain ⟨vs, ⟨j', kv', k, e1, e2, e3, e4⟩, e5⟩ := qq a (List.mem_of_getElem? ha)
  have ej : j' = j := nodup_get nd e1 ha
  subst ej
  rw [hkv] at e2
  cases e2
  rw [e4] at e5
  exact ⟨k, e5, sm _ _ e3⟩
end
end K41
/-! repr of data that lies in tuples, dicts, a list -/
namespace K41
open PySem PySem.Spec PyProof.Rows L2
/-! ### bounds of what repr writes -/
structure Bd (d : PyData) (n k : Nat) : Prop where
  sh : d.showable = true
  len : d.shown.length ≤ n
  dep : d.depth ≤ k
theorem Bd.mono {d : PyData} {n k n' k' : Nat} (h : Bd d n k) (h1 : n ≤ n') (h2 : k ≤ k') : Bd d n' k' := ⟨h.sh, Nat.le_trans h.len h1, Nat.le_trans h.dep h2⟩
theorem showableAll_of : ∀ {ds : List PyData}, (∀ d ∈ ds, d.showable = true) → PyData.showableAll ds = true
  | [], _ => by simp only [PyData.showableAll]
  | d :: ds, h => by
    simp only [PyData.showableAll, h d List.mem_cons_self, showableAll_of (fun e he => h e (List.mem_cons_of_mem _ he)), Bool.and_self]
theorem depthAll_le : ∀ {ds : List PyData} {k : Nat}, (∀ d ∈ ds, d.depth ≤ k) → PyData.depthAll ds ≤ k
  | [], k, _ => by simp only [PyData.depthAll]; exact Nat.zero_le _
  | d :: ds, k, h => by
    have h1 := h d List.mem_cons_self
    have h2 := depthAll_le (fun e he => h e (List.mem_cons_of_mem _ he))
    simp only [PyData.depthAll]
    omega
theorem piled_all : ∀ {ds : List PyData} {n : Nat}, (∀ d ∈ ds, d.shown.length ≤ n) → piled (PyData.shownAll ds) ≤ ds.length * (n + 2)
  | [], n, _ => by simp only [PyData.shownAll, piled_nil]; exact Nat.zero_le _
  | d :: ds, n, h => by
    have h1 := h d List.mem_cons_self
    have h2 := piled_all (fun e he => h e (List.mem_cons_of_mem _ he))
    simp only [PyData.shownAll, piled_cons, List.length_cons, Nat.succ_mul]
    omega
theorem join_le (ts : List Str) : (Str.join ", " ts).length ≤ piled ts := by
  by_cases h : ts = []
  · subst h
    exact Nat.zero_le _
  · have := join_length_add ts h
    omega
theorem tupleText_le (ts : List Str) : (tupleText ts).length ≤ piled ts + 3 := by
  unfold tupleText
  rw [strLen_append, strLen_append]
  have h1 := join_le ts
  have h2 : ((if ts.length == 1 then ",)" else ")" : String) : Str).length ≤ 2 := by
    split <;> decide
  have h3 : ("(" : Str).length = 1 := rfl
  omega
theorem dictText_le (ts : List Str) : (dictText ts).length ≤ piled ts + 2 := by
  unfold dictText
  rw [strLen_append, strLen_append]
  have h1 := join_le ts
  have h2 : ("}" : Str).length = 1 := rfl
  have h3 : ("{" : Str).length = 1 := rfl
  omega
theorem listText_le (ts : List Str) : (listText ts).length ≤ piled ts + 2 := by
  cases ts with
  | nil => rw [listText_nil]; decide
  | cons t r =>
    unfold listText
    rw [strLen_append]
    have h := textFrom_length_pos r 1 (("[" : Str) ++ (if (0 : Nat) > 0 then ", " else "" : String) ++ t) (Nat.succ_pos 0)
    have e : textFrom 0 "[" (t :: r) = textFrom 1 (("[" : Str) ++ (if (0 : Nat) > 0 then ", " else "" : String) ++ t) r := rfl
    rw [e, h, strLen_append, strLen_append, piled_cons]
    have h2 : ("]" : Str).length = 1 := rfl
    have h3 : ("[" : Str).length = 1 := rfl
    have h4 : ((if (0 : Nat) > 0 then ", " else "" : String) : Str).length = 0 := rfl
    omega
theorem bd_int {i : Int} (h : i.natAbs < 10 ^ 18) : Bd (.int i) 19 1 := by
  refine ⟨?_, ?_, ?_⟩
  · simp only [PyData.showable, decide_eq_true_eq]
    by_cases h0 : i.natAbs = 0
    · rw [h0]
      decide
    · have h1 : i.natAbs < 2 ^ 60 := Nat.lt_of_lt_of_le h (by decide)
      have := (Nat.log2_lt h0).mpr h1
      omega
  · simp only [PyData.shown]
    rw [PySem.ofString_length]
    exact int_text_length_le10 (by decide) h
  · simp [PyData.depth]
theorem bd_str {x : Str} {n : Nat} (h : (reprText x).length ≤ n) : Bd (.str x) n 1 := by
  refine ⟨by simp only [PyData.showable], by simpa only [PyData.shown] using h, ?_⟩
  simp [PyData.depth]
theorem bd_tuple {ds : List PyData} {n k : Nat} (h : ∀ d ∈ ds, Bd d n k) : Bd (.tuple ds) (ds.length * (n + 2) + 3) (k + 1) := by
  refine ⟨by simp only [PyData.showable]; exact showableAll_of fun d hd => (h d hd).sh, ?_, ?_⟩
  · simp only [PyData.shown]
    have := tupleText_le (PyData.shownAll ds)
    have := piled_all (fun d hd => (h d hd).len)
    omega
  · have := depthAll_le (fun d hd => (h d hd).dep)
    simp only [PyData.depth]
    omega
theorem bd_list {ds : List PyData} {n k : Nat} (h : ∀ d ∈ ds, Bd d n k) : Bd (.list ds) (ds.length * (n + 2) + 2) (k + 1) := by
  refine ⟨by simp only [PyData.showable]; exact showableAll_of fun d hd => (h d hd).sh, ?_, ?_⟩
  · simp only [PyData.shown]
    have := listText_le (PyData.shownAll ds)
    have := piled_all (fun d hd => (h d hd).len)
    omega
  · have := depthAll_le (fun d hd => (h d hd).dep)
    simp only [PyData.depth]
    omega
theorem showableKv_of : ∀ {kvs : List (PyData × PyData)}, (∀ d ∈ kvs, d.1.showable = true ∧ d.2.showable = true) → PyData.showableKv kvs = true
  | [], _ => by simp only [PyData.showableKv]
  | (a, b) :: ds, h => by
    have h1 := h (a, b) List.mem_cons_self
    simp only [PyData.showableKv, h1.1, h1.2, showableKv_of (fun e he => h e (List.mem_cons_of_mem _ he)), Bool.and_self]
theorem depthKv_le : ∀ {kvs : List (PyData × PyData)} {k : Nat}, (∀ d ∈ kvs, d.1.depth ≤ k ∧ d.2.depth ≤ k) → PyData.depthKv kvs ≤ k
  | [], k, _ => by simp only [PyData.depthKv]; exact Nat.zero_le _
  | (a, b) :: ds, k, h => by
    have h1 := h (a, b) List.mem_cons_self
    have h2 := depthKv_le (fun e he => h e (List.mem_cons_of_mem _ he))
    simp only [PyData.depthKv]
    dsimp only at h1
    omega
theorem piled_kv : ∀ {kvs : List (PyData × PyData)} {n m : Nat}, (∀ d ∈ kvs, d.1.shown.length ≤ n ∧ d.2.shown.length ≤ m) → piled (PyData.shownKv kvs) ≤ kvs.length * (n + m + 4)
  | [], n, m, _ => by simp only [PyData.shownKv, piled_nil]; exact Nat.zero_le _
  | (a, b) :: ds, n, m, h => by
    have h1 := h (a, b) List.mem_cons_self
    have h2 := piled_kv (fun e he => h e (List.mem_cons_of_mem _ he))
    simp only [PyData.shownKv, piled_cons, List.length_cons, Nat.succ_mul]
    rw [strLen_append, strLen_append]
    have h3 : (": " : Str).length = 2 := rfl
    dsimp only at h1
    omega
theorem bd_dict {kvs : List (PyData × PyData)} {n m k : Nat} (h : ∀ d ∈ kvs, Bd d.1 n k ∧ Bd d.2 m k) : Bd (.dict kvs) (kvs.length * (n + m + 4) + 2) (k + 1) := by
  refine ⟨by simp only [PyData.showable]; exact showableKv_of fun d hd => ⟨(h d hd).1.sh, (h d hd).2.sh⟩, ?_, ?_⟩
  · simp only [PyData.shown]
    have := dictText_le (PyData.shownKv kvs)
    have := piled_kv (fun d hd => ⟨(h d hd).1.len, (h d hd).2.len⟩)
    omega
  · have := depthKv_le (fun d hd => ⟨(h d hd).1.dep, (h d hd).2.dep⟩)
    simp only [PyData.depth]
    omega
/-! ### what repr reads -/
def kD : Key → PyData
  | .inl i => .int i
  | .inr x => .str x
inductive Rd1 (H : Hp) : V → PyData → Prop
  | tv {v : V} {d : PyData} : Tv H v d → Rd1 H v d
  | dk {a : Addr} {kvs : List (Key × V)} {es : List (Key × PyData)} : H a = some (.dK kvs) → Paired (fun (p : Key × V) (e : Key × PyData) => p.1 = e.1 ∧ Tv H p.2 e.2) kvs es → Rd1 H (.ref a) (.dict (es.map fun e => (kD e.1, e.2)))
  | dt {a : Addr} {kvs : List (List Key × V)} {es : List (List Key × PyData)} : H a = some (.dT kvs) → Paired (fun (p : List Key × V) (e : List Key × PyData) => p.1 = e.1 ∧ Tv H p.2 e.2) kvs es →
      Rd1 H (.ref a) (.dict (es.map fun e => (.tuple (e.1.map kD), e.2)))
section
variable {X : Cx} {pins : List (Addr × Obj)} {σ : L2.St} {H : Hp} {s : Shared}
mutual
theorem tv_reads (I : Inv X pins σ H s) : ∀ (d : PyData) (x : V) (v : Value), Tv H x d → RelV x v → Reads s.heap v d []
  | .none, _, _, h, r => by cases h; cases r; exact .none
  | .bool b, _, _, h, r => by cases h; cases r; exact .bool b
  | .int i, _, _, h, r => by
    cases h
    obtain ⟨t, rfl⟩ := r
    exact .int i t
  | .str x, _, _, h, r => by
    cases h
    obtain ⟨t, rfl⟩ := r
    exact .str x t
  | .list _, _, _, h, _ => by cases h
  | .tuple ds, _, _, h, r => by
    cases h with
    | tup hs ha =>
      cases r
      obtain ⟨its, rv, p, hz⟩ := I.tuple (SqT.of hs)
      obtain ⟨o, e1, e2, n, e3⟩ := p
      exact .tuple e1 e2 e3 (tvAll_reads I ds _ its ha rv)
  | .dict _, _, _, h, _ => by cases h
theorem tvAll_reads (I : Inv X pins σ H s) : ∀ (ds : List PyData) (xs : List V) (vs : List Value), TvAll H xs ds → Vals xs vs → ReadsAll s.heap vs ds []
  | [], _, _, h, r => by cases h; cases r; exact .nil
  | d :: ds, _, _, h, r => by
    cases h with
    | cons h1 h2 =>
      cases r with
      | cons r1 r2 => exact .cons (as := []) (bs := []) (tv_reads I d _ _ h1 r1) (tvAll_reads I ds _ _ h2 r2)
end
theorem key_reads {h : Heap} {k : Key} {v : Value} (e : keyIs k v = true) : Reads h v (kD k) [] := by
  rcases keyIs_shape e with ⟨i, t, rfl, rfl⟩ | ⟨x, t, rfl, rfl⟩
  · exact .int i t
  · exact .str x t
theorem keyV_reads {h : Heap} {k : Key} {v : Value} (e : RelV (kV k) v) : Reads h v (kD k) [] := by
  cases k with
  | inl i =>
    obtain ⟨t, rfl⟩ := e
    exact .int i t
  | inr x =>
    obtain ⟨t, rfl⟩ := e
    exact .str x t
theorem keysV_reads {h : Heap} : ∀ {ks : List Key} {vs : List Value}, Vals (ks.map kV) vs → ReadsAll h vs (ks.map kD) []
  | [], _, .nil => .nil
  | _ :: _, _, .cons r t => .cons (as := []) (bs := []) (keyV_reads r) (keysV_reads t)
theorem dk_reads (I : Inv X pins σ H s) : ∀ {kvs : List (Key × V)} {vs : List (Key × Value)} {es : List DictEntry} {ds : List (Key × PyData)}, KV kvs vs → Pairs (mixKind X.prog X.w) es vs → Paired (fun (p : Key × V) (e : Key × PyData) => p.1 = e.1 ∧ Tv H p.2 e.2) kvs ds →
    ReadsAll s.heap (es.map (·.key)) (ds.map fun e => kD e.1) [] ∧ ReadsAll s.heap (es.map (·.val)) (ds.map (·.2)) []
  | _, _, _, _, .nil, .nil, .nil => ⟨.nil, .nil⟩
  | _, _, _, _, .cons r t, .cons h1 h2 t2, .cons p t3 => by
    obtain ⟨a, b⟩ := dk_reads I t t2 t3
    obtain ⟨r1, r2⟩ := r
    obtain ⟨p1, p2⟩ := p
    refine ⟨.cons (as := []) (bs := []) ?_ a, .cons (as := []) (bs := []) ?_ b⟩
    · dsimp only
      rw [← p1, r1]
      exact key_reads h1
    · dsimp only
      rw [h2]
      exact tv_reads I _ _ _ p2 r2
theorem dt_reads (I : Inv X pins σ H s) : ∀ {kvs : List (List Key × V)} {xs : List (List Key × Addr × Value)} {ds : List (List Key × PyData)}, KT H kvs xs → Paired (fun (p : List Key × V) (e : List Key × PyData) => p.1 = e.1 ∧ Tv H p.2 e.2) kvs ds →
    ReadsAll s.heap ((xs.map (entryOfKey (tupleKind (mixKind X.prog X.w)))).map (·.key)) (ds.map fun e => PyData.tuple (e.1.map kD)) [] ∧ ReadsAll s.heap ((xs.map (entryOfKey (tupleKind (mixKind X.prog X.w)))).map (·.val)) (ds.map (·.2)) []
  | _, _, _, .nil, .nil => ⟨.nil, .nil⟩
  | _, _, _, .cons r t, .cons p t3 => by
    obtain ⟨a, b⟩ := dt_reads I t t3
    obtain ⟨r1, r2, r3⟩ := r
    obtain ⟨p1, p2⟩ := p
    refine ⟨.cons (as := []) (bs := []) ?_ a, .cons (as := []) (bs := []) ?_ b⟩
    · obtain ⟨its, rv, q, hz⟩ := I.tuple (SqT.of r2)
      obtain ⟨o, e1, e2, n, e3⟩ := q
      dsimp only
      rw [← p1]
      exact .tuple (vs := its.toArray) e1 e2 e3 (by simpa using keysV_reads rv)
    · exact tv_reads I _ _ _ p2 r3
theorem Rd1.reads (I : Inv X pins σ H s) {x : V} {d : PyData} {v : Value} (h : Rd1 H x d) (r : RelV x v) : ∃ as, Reads s.heap v d as ∧ sysModules ∉ as := by
  cases h with
  | tv h => exact ⟨[], tv_reads I _ _ _ h r, by simp⟩
  | dk hd hp =>
    cases r
    obtain ⟨hz, hs0, vs, kv, o, es, ep, e1, e2, e3, e4, e5, e6⟩ := dk_of I.hok hd
    obtain ⟨a1, a2⟩ := dk_reads I kv e5 hp
    refine ⟨[_], .dict (as := []) (bs := []) e1 e2.1 e3 (by simpa [List.map_map, Function.comp_def] using a1) (by simpa [List.map_map, Function.comp_def] using a2), ?_⟩
    intro hm
    have hm' := List.mem_singleton.mp hm
    rw [← hm'] at hs0
    simp at hs0
  | dt hd hp =>
    cases r
    obtain ⟨hz, hs0, xs, kt, o, es, ep, e1, e2, e3, e4, e5, e6⟩ := dt_of I.hok hd
    obtain ⟨a1, a2⟩ := dt_reads I kt hp
    refine ⟨[_], .dict (as := []) (bs := []) e1 e2.1 e3 (by rw [e4]; simpa [List.map_map, Function.comp_def] using a1) (by rw [e4]; simpa [List.map_map, Function.comp_def] using a2), ?_⟩
    intro hm
    have hm' := List.mem_singleton.mp hm
    rw [← hm'] at hs0
    simp at hs0
theorem rd1s_reads (I : Inv X pins σ H s) : ∀ {xs : List V} {ds : List PyData} {vs : List Value}, Paired (Rd1 H) xs ds → Vals xs vs → ∃ as, ReadsAll s.heap vs ds as ∧ sysModules ∉ as
  | _, _, _, .nil, .nil => ⟨[], .nil, by simp⟩
  | _, _, _, .cons h t, .cons r u => by
    obtain ⟨as, a1, a2⟩ := h.reads I r
    obtain ⟨bs, b1, b2⟩ := rd1s_reads I t u
    exact ⟨as ++ bs, .cons a1 b1, fun hm => (List.mem_append.mp hm).elim a2 b2⟩
/-- repr of a list of such data -/
def rReprL : List V → Hp → VK → Prop := fun vs H Q => ∃ (a : Addr) (xs : List V) (ds : List PyData) (n k : Nat), vs = [.ref a] ∧ H a = some (.lst xs) ∧ Paired (Rd1 H) xs ds ∧ Bd (.list ds) n k ∧ n ≤ 16000000 ∧ k ≤ 50 ∧ Q (.str (PyData.list ds).shown) H
theorem cr_reprL (hu : X.A.units + 64 < cLine) (hg : X.A.guards = some []) : CallR X (.builtin "repr") rReprL := by
  intro pins s σ H vs us Q I r h
  obtain ⟨a, xs, ds, n, k, rfl, ha, hp, b, hn, hk, q⟩ := h
  rw [Vals.ref1 r]
  obtain ⟨hz0, its, nn, rv, e1⟩ := I.hok _ _ ha
  obtain ⟨as, ra, hm⟩ := rd1s_reads I hp rv
  have hz : (listText (PyData.shownAll ds)).length ≤ sizeLine := by
    have h1 := b.len
    simp only [PyData.shown] at h1
    have : sizeLine = 2 ^ 24 := rfl
    omega
  have rl : Reads s.heap (.ref a) (.list ds) (a :: as) := .list e1 rfl rfl (by simpa using ra)
  have hs : PyData.showableAll ds = true := by simpa [PyData.showable] using b.sh
  obtain ⟨bs, hb, hk2⟩ := ReprAllK.of_readsAll (prog := X.prog) (w := X.w) ra hs (fun _ => hm) (fun t ht => Nat.le_trans (listText_mem_le ht) hz)
  have hna : a ∉ bs := not_mem_of_deeper rl (by simp only [PyData.depth]; omega) hb
  have hd := b.dep
  simp only [PyData.depth] at hd
  have T : s.TypeIs (.ref a) "list" := ⟨_, e1, rfl⟩
  have fin : ∀ h' u tk, (∀ b o, s.heap.get? b = some o → h'.get? b = some o) → EP X pins σ Q (.str (listText (PyData.shownAll ds)) u) { s with heap := h', toks := tk } := fun h' u tk hk => by
    refine ⟨.str _, H, I.kept (t' := tk) hk, ⟨u, rfl⟩, ?_⟩
    simpa only [PyData.shown] using q
  refine call_repr_slot (by omega) T F.slot_list_repr.toG ?_
  cases its with
  | nil =>
    cases rv
    cases hp
    simp only [PyData.shownAll, listText_nil] at fin
    exact call_list_repr_empty T e1 rfl ⟨_, _, rfl, fin s.heap _ _ fun _ _ e => e⟩
  | cons x l =>
    exact call_list_reprK e1 rfl rfl hna (by simpa using hk2.length_eq) (fun i y e => hk2.item i y (by simpa using e)) hg (fun b _ => Clear.nil b) (by show X.A.units + 1 + _ < cLine; omega) (fun _ _ e => e)
      (fun h' u tk hk => ⟨_, _, rfl, fin h' u tk hk⟩) hz
/-- .. of one such -/
def rRepr1 : List V → Hp → VK → Prop := fun vs H Q => ∃ (a : Addr) (d : PyData) (n k : Nat), vs = [.ref a] ∧ Rd1 H (.ref a) d ∧ Bd d n k ∧ n ≤ 16000000 ∧ k ≤ 50 ∧ Q (.str d.shown) H
theorem cr_repr1 (hu : X.A.units + 64 < cLine) (hg : X.A.guards = some []) : CallR X (.builtin "repr") rRepr1 := by
  intro pins s σ H vs us Q I r h
  obtain ⟨a, d, n, k, rfl, hr, b, hn, hk, q⟩ := h
  rw [Vals.ref1 r]
  obtain ⟨as, ra, hm⟩ := hr.reads I (v := .ref a) rfl
  have hd := b.dep
  have hl := b.len
  have : sizeLine = 2 ^ 24 := rfl
  exact repr_of_reads' ra b.sh (fun _ => hm) hg (by omega) (fun _ _ e => e) (fun h' u tk hk => ⟨.str _, H, I.kept (t' := tk) hk, ⟨u, rfl⟩, q⟩) (by omega)
end
end K41
/-! {(a, b): c for .. in .. for .. in ..}: a dict comprehension of two clauses, keys tuples, no tests -/
namespace K41
open PySem PySem.Spec PyProof.Rows L2
section turns
variable {P : Program} {w : World} {A : Around} {R : Result → Shared → Prop} {s : Shared} {kx vx ta ia tb ib : Expr} {sc : Scope} {pos : Pos} {it : Value} {D : Addr} {env : Env}
abbrev dc2e (kx vx ta ia tb ib : Expr) (sc : Scope) (pos : Pos) : Expr := .DictComp kx vx [⟨ta, ia, [], 0⟩, ⟨tb, ib, [], 0⟩] sc pos
theorem dc2_turn0 : compTurn (dc2e kx vx ta ia tb ib sc pos) 0 it (.ref D) env = (do
    standAt ia.pos
    match ← pyNext it with
    | none => pure (.done .next)
    | some v =>
      letOwnedTupleGo ta it v
      assign ta env v
      let mut ok := true
      for c in ([] : List Expr) do
        if ok then ok ← isTrue c env (eval c env)
      if ok then
        let x ← eval ib env
        standAt ib.pos
        let x ← foldedSetIterable ib env x
        let _ ← runOwn (.compStart (dc2e kx vx ta ia tb ib sc pos) 1 (← holding [x] (pyIter x)) (.ref D) env) env
      again (.compLoop (dc2e kx vx ta ia tb ib sc pos) 0 it (.ref D) env)) := by rfl
theorem dc2_turn1 : compTurn (dc2e kx vx ta ia tb ib sc pos) 1 it (.ref D) env = (do
    standAt ib.pos
    match ← pyNext it with
    | none => pure (.done .next)
    | some v =>
      letOwnedTupleGo tb it v
      assign tb env v
      let mut ok := true
      for c in ([] : List Expr) do
        if ok then ok ← isTrue c env (eval c env)
      if ok then
        (do
          let kv ← eval kx env
          let vv ← holding [kv] (eval vx env)
          standAt { kx.pos with endLine := vx.pos.endLine, endCol := vx.pos.endCol }
          holding [kv, vv] (dictSet D kv vv))
      again (.compLoop (dc2e kx vx ta ia tb ib sc pos) 1 it (.ref D) env)) := by rfl
/-- the outer loop -/
theorem dc2_out (hf : ∀ x, foldedSetIterable ib env x = pure x) (I : Nat → Shared → Prop)
    (turn : ∀ n s, I n s → wpAny (model P w) A (pyNext it) (fun r s1 => match r with
      | none => R (.ok .next) s1
      | some v => wpAny (model P w) A (letOwnedTupleGo ta it v) (fun _ s2 => wpAny (model P w) A (assign ta env v) (fun _ s3 =>
          wpAny (model P w) A (eval ib env) (fun x s4 => wpAny (model P w) A (pyIter x) (fun it1 s5 =>
              codeAny (model P w) A (.compStart (dc2e kx vx ta ia tb ib sc pos) 1 it1 (.ref D) env) (fun r s' => match r with
                | .ok _ => ∃ m, m < n ∧ I m s'
                | .error _ => False) s5) (notedBy (model P w) A env fun e s' => R (.error e) s') s4) (notedBy (model P w) A env fun e s' => R (.error e) s') s3) (notedBy (model P w) A env fun e s' => R (.error e) s') s2) (notedBy (model P w) A env fun e s' => R (.error e) s') s1) (notedBy (model P w) A env fun e s' => R (.error e) s') s)
    (n : Nat) (h : I n s) : codeAny (model P w) A (.compLoop (dc2e kx vx ta ia tb ib sc pos) 0 it (.ref D) env) R s := by
  refine codeAny_loop rfl I (fun n s hI => ?_) n h
  show wpAny _ A ((compTurn (dc2e kx vx ta ia tb ib sc pos) 0 it (.ref D) env).onRaise (fun x => do noteFrame x env; theTreesLotGoes x)) _ _ s
  refine wpAny_noted ?_
  rw [dc2_turn0]
  refine wpAny_bind (wpAny_standAt (wpAny_bind (wpAny_mono (turn n s hI) (fun r s1 h1 => ?_) fun _ _ z => z)))
  cases r with
  | none => exact wpAny_pure h1
  | some v =>
    refine wpAny_bind (wpAny_mono h1 (fun _ s2 h2 => ?_) fun _ _ z => z)
    refine wpAny_bind (wpAny_mono h2 (fun _ s3 h3 => wpAny_bind (wpAny_pure ?_)) fun _ _ z => z)
    refine wpAny_bind (wpAny_mono h3 (fun x s4 h4 => ?_) fun _ _ z => z)
    refine wpAny_bind (wpAny_standAt (wpAny_bind (wpAny_of_eq (hf x) (wpAny_bind (wpAny_holding (wpAny_mono h4 (fun it1 s5 h5 => ?_) fun _ _ z => z))))))
    refine wpAny_bind (wpAny_runOwn ?_)
    rw [Around.mark_none]
    refine codeAny_mono h5 fun r s' hr => ?_
    cases r with
    | ok f =>
      first
        | exact wpAny_pure ⟨rfl, hr⟩
        | exact wpAny_bind (wpAny_pure (wpAny_pure ⟨rfl, hr⟩))
    | error e => exact hr.elim
/-- the inner loop -/
theorem dc2_in (I : Nat → Shared → Prop)
    (turn : ∀ n s, I n s → wpAny (model P w) A (pyNext it) (fun r s1 => match r with
      | none => R (.ok .next) s1
      | some v => wpAny (model P w) A (letOwnedTupleGo tb it v) (fun _ s2 => wpAny (model P w) A (assign tb env v) (fun _ s3 =>
          wpAny (model P w) A (eval kx env) (fun ku s4 => wpAny (model P w) A (eval vx env) (fun vu s5 =>
            wpAny (model P w) A (dictSet D ku vu) (fun _ s6 => ∃ m, m < n ∧ I m s6) (notedBy (model P w) A env fun e s' => R (.error e) s') s5) (notedBy (model P w) A env fun e s' => R (.error e) s') s4) (notedBy (model P w) A env fun e s' => R (.error e) s') s3) (notedBy (model P w) A env fun e s' => R (.error e) s') s2) (notedBy (model P w) A env fun e s' => R (.error e) s') s1) (notedBy (model P w) A env fun e s' => R (.error e) s') s)
    (n : Nat) (h : I n s) : codeAny (model P w) A (.compLoop (dc2e kx vx ta ia tb ib sc pos) 1 it (.ref D) env) R s := by
  refine codeAny_loop rfl I (fun n s hI => ?_) n h
  show wpAny _ A ((compTurn (dc2e kx vx ta ia tb ib sc pos) 1 it (.ref D) env).onRaise (fun x => do noteFrame x env; theTreesLotGoes x)) _ _ s
  refine wpAny_noted ?_
  rw [dc2_turn1]
  refine wpAny_bind (wpAny_standAt (wpAny_bind (wpAny_mono (turn n s hI) (fun r s1 h1 => ?_) fun _ _ z => z)))
  cases r with
  | none => exact wpAny_pure h1
  | some v =>
    refine wpAny_bind (wpAny_mono h1 (fun _ s2 h2 => ?_) fun _ _ z => z)
    refine wpAny_bind (wpAny_mono h2 (fun _ s3 h3 => wpAny_bind (wpAny_pure ?_)) fun _ _ z => z)
    exact wpAny_bind (wpAny_bind (wpAny_mono h3 (fun ku s4 h4 => wpAny_bind (wpAny_holding (wpAny_mono h4 (fun vu s5 h5 => wpAny_bind (wpAny_standAt (wpAny_holding (wpAny_mono h5 (fun _ s6 h6 => wpAny_pure ⟨rfl, h6⟩) fun _ _ z => z)))) fun _ _ z => z))) fun _ _ z => z))
/-- the inner loop's start -/
theorem dc2_start1 (h0 : codeAny (model P w) A (.compLoop (dc2e kx vx ta ia tb ib sc pos) 1 it (.ref D) env) R s)
    (h : wpAny (model P w) A (pyIter it) (fun it' s' => codeAny (model P w) A (.compLoop (dc2e kx vx ta ia tb ib sc pos) 1 it' (.ref D) env) R s') (notedBy (model P w) A env fun x s' => R (.error x) s') s) :
    codeAny (model P w) A (.compStart (dc2e kx vx ta ia tb ib sc pos) 1 it (.ref D) env) R s := by
  refine codeAny_of_tree ?_
  show wpAny _ _ ((compStart (dc2e kx vx ta ia tb ib sc pos) 1 it (.ref D) env).onRaise (fun x => do noteFrame x env; standAt theWindowsPlace)) _ _ s
  refine wpAny_notedAt ?_
  unfold compStart
  show wpAny _ _ (ask >>= _) _ _ s
  refine wpAny_bind (wpAny_askSetting (wpAny_ite ?_))
  split
  · first
      | exact wpAny_bind (wpAny_pure (wpAny_pure (And.intro rfl h0)))
      | exact wpAny_pure (And.intro rfl h0)
  · first
      | exact wpAny_bind (wpAny_rule (wpAny_bind (wpAny_standAt (wpAny_bind (wpAny_mono h (fun it' s' h' => wpAny_pure (And.intro rfl h')) fun _ _ x => x)))))
      | (refine wpAny_bind (wpAny_rule ?_); show wpAny _ _ (standAt ib.pos >>= _) _ _ s; exact wpAny_bind (wpAny_standAt (wpAny_bind (wpAny_mono h (fun it' s' h' => wpAny_pure (And.intro rfl h')) fun _ _ x => x))))
end turns
/-- D[(..)] = v by a comprehension -/
theorem dt_dictSet {X : Cx} {pins : List (Addr × Obj)} {σ : L2.St} {H : Hp} {s : Shared} {E : Value → Shared → Prop} {D b : Addr} {kvs : List (List Key × V)} {k : List Key} {v : V} {r : Value} {Q : Unit → Shared → Prop} (hu : X.A.units + 2 < cLine) (I : Inv X pins σ H s) (hD : H D = some (.dT kvs))
    (hz : kvs.length < sizeLine) (hb : H b = some (.tup (k.map kV))) (rv : RelV v r) (h : ∀ s', Inv X pins σ (upd H D (.dT (putK kvs k v))) s' → Q () s') : wpAny (model X.prog X.w) X.A (dictSet D (.ref b) r) Q E s := by
  obtain ⟨z, hd, xs, rel, dd⟩ := dt_of I.hok hD
  have hzx : xs.length ≤ sizeLine := by rw [← Paired.length rel]; exact z
  have hl : (putK kvs k v).length ≤ sizeLine := by have := length_putK kvs k v; omega
  refine wpAny_dictSet_heap (knd := tupleKind (mixKind X.prog X.w)) (hsz := hzx) (show X.A.units < cLine by omega) (key_of I.hok hb) dd fun h' dd' sb => h _ ?_
  obtain ⟨q, es, ep, hq, h2, h3, h4, _, h5⟩ := dd'
  refine d_write I (by rw [hD]; exact True.intro) sb ⟨q, hq⟩ ⟨hl, hd, _, (rel.put k hb rv).keeps fun c ys ec => ?_, q, es, ep, hq, h2, h3, h4, h5⟩
  rw [upd_ne (ne_of ec hD (fun z => nomatch z))]
  exact ec
section
variable {X : Cx}
/-- the reading. vs: the block's names, ws: the second target's -/
def tDc2 (wa : TI) (ga : TG) (wb : TI) (gb : TG) (tk tv : TE) (vs ws : List Nat) : TE := fun σ H Q => wa σ H fun J H1 => ∀ D, H1 D = none → ∃ W : Nat → Nat → Hp → Prop, (∃ m, W 0 m (upd H1 D (.dT []))) ∧ ∀ i m H, W i m H →
  (J.stop i H ∧ Q (.ref D) H) ∨ (J.go i H ∧ ∃ Nx : Hp → Prop, (∀ H', Nx H' → ∃ m', m' < m ∧ W (i + 1) m' H') ∧ ∀ x H', J.yld i H x H' → ga x (wipe σ vs) H' fun σ2 H2 => wipe σ2 vs = wipe σ vs ∧
    wb σ2 H2 fun J1 H4 => ∃ U : Nat → Nat → Hp → Prop, (∃ m, U 0 m H4) ∧ ∀ j k H, U j k H →
      (J1.stop j H ∧ Nx H) ∨ (J1.go j H ∧ ∃ Ny : Hp → Prop, (∀ H', Ny H' → ∃ k', k' < k ∧ U (j + 1) k' H') ∧ ∀ x H', J1.yld j H x H' → gb x (wipe σ2 ws) H' fun σ3 H5 => wipe σ3 ws = wipe σ2 ws ∧
        tk σ3 H5 fun y H6 => tv σ3 H6 fun z H7 => ∃ kvs key b, y = .ref b ∧ H7 b = some (.tup (key.map kV)) ∧ H7 D = some (.dT kvs) ∧ kvs.length < sizeLine ∧ Ny (upd H7 D (.dT (putK kvs key z)))))
theorem pe_dc2 {kx vx ta ia tb ib : Expr} {sc : Scope} {own : List (Str × Nat)} {ws : List Nat} {pos : Pos} {wa wb : TI} {ga gb : TG} {tk tv : TE} (hc : X.calm = true) (hN : X.N.Nodup) (hu : X.A.units + 2 < cLine) (hi : PI X ta ia wa) (ok : BlkOk X.N X.env.scope sc own) (hv : ∀ i ∈ ws, i ∈ own.map (·.2))
    (hg : ∀ (s : Shared) (H : Hp) (C : Addr) (cl : List (Str × Addr)) (fp : List Addr), PG (X.blk s H sc (compEnvC sc cl C X.env) fp) ta ga) (hj : ∀ (s : Shared) (H : Hp) (C : Addr) (cl : List (Str × Addr)) (fp : List Addr), PI (X.blk s H sc (compEnvC sc cl C X.env) fp) tb ib wb)
    (hh : ∀ (s : Shared) (H : Hp) (C : Addr) (cl : List (Str × Addr)) (fp : List Addr), PG (X.blk s H sc (compEnvC sc cl C X.env) fp) tb gb) (hk : ∀ (s : Shared) (H : Hp) (C : Addr) (cl : List (Str × Addr)) (fp : List Addr), PE (X.blk s H sc (compEnvC sc cl C X.env) fp) kx tk)
    (hx : ∀ (s : Shared) (H : Hp) (C : Addr) (cl : List (Str × Addr)) (fp : List Addr), PE (X.blk s H sc (compEnvC sc cl C X.env) fp) vx tv) (hs : ∀ x, foldedSetIterable ia X.env x = pure x := by intro _; rfl) (hs1 : ∀ env x, foldedSetIterable ib env x = pure x := by intro _ _; rfl) :
    PE X (dc2e kx vx ta ia tb ib sc pos) (tDc2 wa ga wb gb tk tv (own.map (·.2)) ws) := by
  refine ⟨fun pins s σ H Q I h => ?_⟩
  rw [arm_eval_DictComp]
  have hfree : ∀ y ∈ sc.names, y.2 = .free → ∃ c, X.env.cells.lookup y.1 = some c := fun y hy e => (ok.free y hy e).elim (fun k => I.ok.has _ (.inl k)) fun k => I.ok.has _ (.inr k)
  refine wpAny_comprehension_free (use := none) rfl hs (closure_ok hfree) ok.kind (fun y hy e => by rw [ok.uniq y hy, e]) (thn (hi.run pins s σ H _ I h) fun xv s1 hx1 => thn hx1 fun itv s2 h2 => ?_)
  obtain ⟨it, fp, tn, J, H2, e, I2, T, st2, f2, q⟩ := h2
  subst e
  refine wpAny_newObj_type (newEnv_comp ?_)
  generalize hD : s2.heap.objs.size = D
  have hDn : H2 D = none := I2.hok.fresh (Nat.le_of_eq hD)
  obtain ⟨W, ⟨m0, w0⟩, turn⟩ := q D hDn
  generalize hs3 : ({ s2 with heap := s2.heap.push { cls := .type "dict", data := .dict #[] } } : Shared) = s3
  have h3 : s3.heap = s2.heap.push { cls := .type "dict", data := .dict #[] } := by rw [← hs3]
  have I3 : Inv X pins σ (upd H2 D (.dT [])) s3 := by
    rw [← hs3]
    refine I2.laid (t' := s2.toks) (fun b o e => Heap.get?_push_of_some _ e) (Nat.le_of_eq hD) ?_
    rw [← hD]
    exact dt_empty s2.heap I2.big
  have f3 : ∀ b ∈ fp, FpOk X pins (upd H2 D (.dT [])) b ∧ b < s3.heap.objs.size := fun b hb => by
    obtain ⟨o, e, _⟩ := T.obj _ _ st2 b hb
    have hlt := Heap.lt_size e
    refine ⟨⟨?_, (f2 b hb).2⟩, by rw [h3, Heap.size_push]; exact Nat.lt_succ_of_lt hlt⟩
    rw [upd_ne (by rw [← hD]; exact Nat.ne_of_lt hlt)]
    exact (f2 b hb).1
  have st3 : tn 0 s3.heap := T.keep _ _ _ st2 fun b _ o e => by rw [h3]; exact Heap.get?_push_of_some _ e
  have I4 := block_start I3 ok hN f3
  generalize hcl : cellsFrom (s3.heap.objs.size + 1) sc.names (cloFrom X.env.cells sc.names []) = cl at I4
  have pg := hg s3 (upd H2 D (.dT [])) s3.heap.objs.size cl fp
  have pj := hj s3 (upd H2 D (.dT [])) s3.heap.objs.size cl fp
  have ph := hh s3 (upd H2 D (.dT [])) s3.heap.objs.size cl fp
  have pk := hk s3 (upd H2 D (.dT [])) s3.heap.objs.size cl fp
  have px := hx s3 (upd H2 D (.dT [])) s3.heap.objs.size cl fp
  show codeAny _ _ (.compStart (dc2e kx vx ta ia tb ib sc pos) 0 (.ref it) (.ref D) (compEnvC sc cl s3.heap.objs.size X.env)) (compPost (model X.prog X.w) X.A X.xe none _ (.ref D) s3.heap.objs.size) { s3 with heap := pushCells (s3.heap.push { cls := .type "dict", data := .dict #[] }) sc.names }
  have nfp : ∀ b ∈ fp, (upd H2 D (.dT [])) b = none := fun b hb => (f3 b hb).1.1
  generalize hce : compEnvC sc cl s3.heap.objs.size X.env = ce at I4 pg pj ph pk px ⊢
  have cL : ce.locals = s3.heap.objs.size := by subst hce; rfl
  generalize hH3 : upd H2 D (.dT []) = H3 at I3 I4 pg pj ph pk px w0 nfp f3
  generalize hs4 : ({ s3 with heap := pushCells (s3.heap.push { cls := .type "dict", data := .dict #[] }) sc.names } : Shared) = s4 at I4 ⊢
  have st4 : tn 0 s4.heap := T.keep _ _ _ st3 fun b _ o e => by rw [← hs4]; exact pushCells_keeps _ _ _ _ (Heap.get?_push_of_some _ e)
  have stat : ∀ {σ' : L2.St} {H' : Hp} {s' : Shared}, Inv (X.blk s3 H3 sc ce fp) [] σ' H' s' → (∀ b ∈ fp, H' b = none) → ∀ b ∈ fp, FpOk (X.blk s3 H3 sc ce fp) [] H' b := fun {σ' H' s'} J' hn b hb =>
    ⟨hn b hb, (J'.ok.exf b hb).1, J'.ok.exfs b hb, .inl hb, fun x c e => (J'.ok.exf b hb).2 x c e, fun p hp => absurd (show p ∈ ([] : List (Addr × Obj)) ++ [] from hp) (by simp)⟩
  have loop : codeAny (model X.prog X.w) X.A (.compLoop (dc2e kx vx ta ia tb ib sc pos) 0 (.ref it) (.ref D) ce) (compPost (model X.prog X.w) X.A X.xe none (EP X pins σ Q) (.ref D) s3.heap.objs.size) s4 := by
    refine dc2_out (hs1 ce) (fun n s' => ∃ i H', Inv (X.blk s3 H3 sc ce fp) [] (wipe σ (own.map (·.2))) H' s' ∧ tn i s'.heap ∧ (∀ b ∈ fp, H' b = none) ∧ W i n H') ?_ m0 ⟨0, H3, I4, st4, nfp, w0⟩
    rintro n s5 ⟨i, H5, I5, st5, n5, w5⟩
    rcases turn i n H5 w5 with ⟨stop, qq⟩ | ⟨go, Nx, hNx, step⟩
    · refine thnF (T.done (X.blk s3 H3 sc ce fp) rfl rfl rfl hc i [] s5 _ H5 (fun _ _ => False) I5 (stat I5 n5) st5 stop) fun r s6 ⟨hr, I6⟩ => ?_
      subst hr
      have I7 : Inv X pins σ H5 s6 := I3.call' (ch := fp) I6.os I6.base I6.hok I6.bare fun b hb => ⟨(f3 b hb).1.2.2.2.1, (f3 b hb).1.2.1, (f3 b hb).1.2.2.2.2.1, (f3 b hb).1.2.2.2.2.2⟩
      have nC : H5 s3.heap.objs.size = none := by
        have z : H5 ce.locals = none := I6.free
        rwa [cL] at z
      obtain ⟨m, hn, _⟩ := I6.loc
      have hn : s6.heap.Ns ce.locals m := hn
      rw [cL] at hn
      obtain ⟨g0, g1, g2, g3, g4, g5⟩ := I3.fpOk (Nat.le_refl _) nC
      exact ⟨m, hn, fun h'' sb => ⟨.ref D, H5, I7.turned (t' := s6.toks) (fun b o hb e => (sb.2 b hb).trans e) g0 g1 g3 g4 g5, rfl, qq⟩⟩
    · refine thnF (T.item (X.blk s3 H3 sc ce fp) rfl rfl rfl hc i [] s5 _ H5 (fun _ _ => False) I5 (stat I5 n5) st5 go) fun r s6 ⟨u, hr, h6⟩ => ?_
      subst hr
      refine thnF h6 fun _ s7 ⟨x, H7, I7, r7, y7, st7, n7⟩ => ?_
      have I7' := I7.pinned (stat I7 n7) (T.obj _ _ st7)
      refine thnF (pg.run _ s7 _ H7 x u _ I7' r7 (step x H7 y7)) fun _ s8 ⟨σ8, H8, I8, hw8, q8⟩ => ?_
      have fin : ∀ {σ9 : L2.St} {s' : Shared} {H' : Hp}, Inv (X.blk s3 H3 sc ce fp) ([] ++ pinsAt fp s7.heap) σ9 H' s' → (wipe σ (own.map (·.2))).length = σ9.length → (∀ (j : Nat) v, (wipe σ (own.map (·.2)))[j]? = some (some v) → σ9[j]? = some (some v)) → Nx H' →
          ∃ m, m < n ∧ ∃ i H', Inv (X.blk s3 H3 sc ce fp) [] (wipe σ (own.map (·.2))) H' s' ∧ tn i s'.heap ∧ (∀ b ∈ fp, H' b = none) ∧ W i m H' := fun {σ9 s' H'} J' hl hk nx => by
        obtain ⟨m', hm, w'⟩ := hNx H' nx
        have pin' : ∀ b ∈ fp, ∀ o, s7.heap.get? b = some o → s'.heap.get? b = some o ∧ H' b = none := fun b hb o e =>
          let z := J'.pin (b, o) (List.mem_append_right _ (List.mem_append_right _ (mem_pinsAt hb e)))
          ⟨z.1, z.2.1⟩
        refine ⟨m', hm, i + 1, H', (J'.unpinned (pins := [])).weak hl hk, T.keep _ _ _ st7 fun b hb o e => (pin' b hb o e).1, fun b hb => ?_, w'⟩
        obtain ⟨o, e, _⟩ := T.obj _ _ st7 b hb
        exact (pin' b hb o e).2
      have hk9 : ∀ (j : Nat) v, (wipe σ (own.map (·.2)))[j]? = some (some v) → (wipe σ8 ws)[j]? = some (some v) := fun j v e => by
        rw [← hw8] at e
        obtain ⟨e1, e2⟩ := wipe_some e
        rw [wipe_out fun z => e2 (hv j z)]
        exact e1
      have hl9 : (wipe σ (own.map (·.2))).length = (wipe σ8 ws).length := by rw [← hw8, wipe_length, wipe_length]
      refine thnF (pj.run _ s8 σ8 H8 _ I8 q8) fun xv s10 hx10 => thnF hx10 fun itv s11 h11 => ?_
      obtain ⟨it1, fp1, tn1, J1, H11, e1, I11, T1, st11, f11, U, ⟨m1, w1⟩, turn1⟩ := h11
      subst e1
      have stat1 : ∀ {H' : Hp}, (∀ b ∈ fp1, H' b = none) → ∀ b ∈ fp1, FpOk (X.blk s3 H3 sc ce fp) ([] ++ pinsAt fp s7.heap) H' b := fun hn b hb => ⟨hn b hb, (f11 b hb).2⟩
      have loop1 : codeAny (model X.prog X.w) X.A (.compLoop (dc2e kx vx ta ia tb ib sc pos) 1 (.ref it1) (.ref D) ce)
          (fun r s' => match r with
            | .ok _ => ∃ m, m < n ∧ ∃ i H', Inv (X.blk s3 H3 sc ce fp) [] (wipe σ (own.map (·.2))) H' s' ∧ tn i s'.heap ∧ (∀ b ∈ fp, H' b = none) ∧ W i m H'
            | .error _ => False) s11 := by
        refine dc2_in (fun k s' => ∃ j H', Inv (X.blk s3 H3 sc ce fp) ([] ++ pinsAt fp s7.heap) (wipe σ8 ws) H' s' ∧ tn1 j s'.heap ∧ (∀ b ∈ fp1, H' b = none) ∧ U j k H') ?_ m1 ⟨0, H11, I11.weak (wipe_length _ _) (fun j v e => (wipe_some e).1), st11, fun b hb => (f11 b hb).1, w1⟩
        rintro k s12 ⟨j, H12, I12, st12, n12, w12⟩
        rcases turn1 j k H12 w12 with ⟨stop1, nx1⟩ | ⟨go1, Ny, hNy, step1⟩
        · refine thnF (T1.done (X.blk s3 H3 sc ce fp) rfl rfl rfl hc j _ s12 (wipe σ8 ws) H12 (fun _ _ => False) I12 (stat1 n12) st12 stop1) fun r s13 ⟨hr, I13⟩ => ?_
          subst hr
          exact fin I13 hl9 hk9 nx1
        · refine thnF (T1.item (X.blk s3 H3 sc ce fp) rfl rfl rfl hc j _ s12 (wipe σ8 ws) H12 (fun _ _ => False) I12 (stat1 n12) st12 go1) fun r s13 ⟨u1, hr, h13⟩ => ?_
          subst hr
          refine thnF h13 fun _ s14 ⟨x1, H14, I14, r14, y14, st14, n14⟩ => ?_
          have I14' := I14.pinned (stat1 n14) (T1.obj _ _ st14)
          refine thnF (ph.run _ s14 (wipe σ8 ws) H14 x1 u1 _ I14' r14 (step1 x1 H14 y14)) fun _ s15 ⟨σ15, H15, I15, hw15, q15⟩ => ?_
          refine thnF (pk.run _ s15 σ15 H15 _ I15 q15) fun z s16 ⟨yk, H16, I16, r16, q16⟩ => ?_
          refine thnF (px.run _ s16 σ15 H16 _ I16 q16) fun z2 s17 ⟨yv, H17, I17, r17, kvs, key, b, ek, hb17, hD17, hz17, ny⟩ => ?_
          subst ek
          cases (show z = Value.ref b from r16)
          refine dt_dictSet (X := X.blk s3 H3 sc ce fp) hu I17 hD17 hz17 hb17 r17 fun s18 I18 => ?_
          obtain ⟨m', hm, w'⟩ := hNy _ ny
          have pin' : ∀ b ∈ fp1, ∀ o, s14.heap.get? b = some o → s18.heap.get? b = some o ∧ (upd H17 D (.dT (putK kvs key yv))) b = none := fun b hb o e =>
            let z := I18.pin (b, o) (List.mem_append_right _ (List.mem_append_right _ (mem_pinsAt hb e)))
            ⟨z.1, z.2.1⟩
          refine ⟨m', hm, j + 1, _, I18.unpinned.weak (by rw [← hw15, wipe_length]) (fun j v e => by rw [← hw15] at e; exact (wipe_some e).1), T1.keep _ _ _ st14 fun b hb o e => (pin' b hb o e).1, fun b hb => ?_, w'⟩
          obtain ⟨o, e, _⟩ := T1.obj _ _ st14 b hb
          exact (pin' b hb o e).2
      exact dc2_start1 loop1 (T1.self X.A 0 _ _ _ st11 loop1)
  exact codeAny_compStart_dict loop (T.self X.A 0 _ _ _ st4 loop)
end
end K41
/-! defs of the text; those that run where no repr is under way; the law's end -/
namespace K41
open PySem PySem.Spec PyProof.Rows L2
open C8 (Cal pe_c)
/-- the def st under the name x -/
structure DefAt (K : PySem.W.Frag) (mg : Str → Option Value) (x : Str) (st : Stmt) : Prop where
  ex : ∃ (f : Addr) (fd : FuncData), FunD K x x (defArgs st) (defBody st) (defScope st) [] [] f fd ∧ mg x = some (.ref f)
section
variable {P : Program} {w : World} {K : PySem.W.Frag} {mg : Str → Option Value} {base : Heap}
theorem binds_of {x : Str} {st : Stmt} {f : Addr} {fd : FuncData} {ps : List Str} (F : FunD K x x (defArgs st) (defBody st) (defScope st) [] [] f fd)
    (h : ∀ (kV doc pm : Value) (an : Option Addr) (cdv ct : Value) (us : List Value), us.length = ps.length → bindArgs (PySem.W.fnOf x x (defArgs st) (defBody st) (defScope st) .none kV doc pm an cdv ct) ⟨us, []⟩ = pure (ps.zip us)) : Binds K fd ps [] := fun s us _ hl => by
  rw [List.append_nil] at hl ⊢
  exact FunD.bindsA F h s us hl
/-- a def's promise, by its body -/
theorem cal_of {x : Str} {st : Stmt} {N ps : List Str} {k : Nat} {sp : Sp} (D : DefAt K mg x st) (S : FnScope N ps (defScope st)) (len : ∀ vs H Q E, sp vs H Q E → vs.length = ps.length)
    (hb : ∀ (kV doc pm : Value) (an : Option Addr) (cdv ct : Value) (us : List Value), us.length = ps.length → bindArgs (PySem.W.fnOf x x (defArgs st) (defBody st) (defScope st) .none kV doc pm an cdv ct) ⟨us, []⟩ = pure (ps.zip us))
    (hbody : ∀ (f : Addr) (cdv : Value) (A : Around) (outer : List Env) (s : Shared) (H : Hp) (vs : List V) (Q : VK) (E : XK), Room k (A.deeper (envOfC x (defScope st) s.heap.objs.size f cdv)) → sp vs H Q E →
      ∃ t, PSs (cxOf CX0 P w K mg base N x (defScope st) f cdv A outer s H E).nox (defBody st) t ∧ t { nx := fun _ H' => Q .non H', rt := Q } (start N vs) H) : Cal P w K mg base (k + 1) x sp [] := by
  obtain ⟨f, fd, F, hm⟩ := D.ex
  refine ⟨f, fd, ps, [], F.ok S len (fun cdv A outer s H vs Q E hr hsp => ?_), hm, F.kp, ?_, .nil⟩
  · obtain ⟨t, h, q⟩ := hbody f cdv A outer s H vs Q E hr hsp
    exact ⟨t, h.nox, q⟩
  · exact binds_of F fun kV doc pm an cdv ct us hl => hb kV doc pm an cdv ct us hl
/-- a def's promise where no repr is under way -/
structure FnG (P : Program) (w : World) (K : PySem.W.Frag) (mg : Str → Option Value) (base : Heap) (k : Nat) (f : Addr) (fd : FuncData) (ps : List Str) (sp : Sp) : Prop where
  len : ∀ vs H Q E, sp vs H Q E → vs.length = ps.length
  run : ∀ (A : Around) (outer : List Env) (s : Shared) (H : Hp) (args : Args) (us : List Value) (vs : List V) (Q : VK) (E : XK), A.guards = some [] → Room k A → Env0 P w K mg base A outer s H → BindsTo s fd args (ps.zip us) → Vals vs us → sp vs H Q E →
    codeAny (model P w) A (.call (.ref f) args) (CR CX0 outer P w H s Q E) s
structure CalG (P : Program) (w : World) (K : PySem.W.Frag) (mg : Str → Option Value) (base : Heap) (k : Nat) (x : Str) (sp : Sp) : Prop where
  ex : ∃ (f : Addr) (fd : FuncData) (ps : List Str), FnG P w K mg base k f fd ps sp ∧ mg x = some (.ref f) ∧ PySem.W.keepIn K (.ref f) = true ∧ Binds K fd ps []
theorem fnG_of {x : Str} {st : Stmt} {f : Addr} {fd : FuncData} {N ps : List Str} {k : Nat} {sp : Sp} (F : FunD K x x (defArgs st) (defBody st) (defScope st) [] [] f fd) (S : FnScope N ps (defScope st)) (len : ∀ vs H Q E, sp vs H Q E → vs.length = ps.length)
    (hbody : ∀ (cdv : Value) (A : Around) (outer : List Env) (s : Shared) (H : Hp) (vs : List V) (Q : VK) (E : XK), (A.deeper (envOfC x (defScope st) s.heap.objs.size f cdv)).guards = some [] → Room k (A.deeper (envOfC x (defScope st) s.heap.objs.size f cdv)) → sp vs H Q E →
      ∃ t, PSs (cxOf CX0 P w K mg base N x (defScope st) f cdv A outer s H E).nox (defBody st) t ∧ t { nx := fun _ H' => Q .non H', rt := Q } (start N vs) H) : FnG P w K mg base (k + 1) f fd ps sp := by
  obtain ⟨oc, od, dV, kV, doc, pm, an, cdv, ct, osl, rfl, lk, hcd, _, _⟩ := F.ex
  refine ⟨len, fun A outer s H args us vs Q E hgd hr e0 hb r hsp => ?_⟩
  have all := e0.bs
  have KX : K.In s.heap := e0.mod.kin.keeps fun b o e => (all b o e).1
  have lim : s.heap.NoLimit := e0.mod.nolimit.keeps fun b o e => (all b o e).1
  have knd : ∀ y ∈ ps.zip us, (defScope st).names.lookup y.1 = some .local ∨ ((defScope st).names.lookup y.1 = some .cell ∧ ((cellsFrom (s.heap.objs.size + 1) (defScope st).names []).lookup y.1).isSome = true) := fun ⟨n, v⟩ hy =>
    (S.par n (List.of_mem_zip hy).1).elim .inl fun q => .inr ⟨q, PySem.W.cellsFrom_some _ _ _ (.inl q)⟩
  refine codeAny_call_function hr.depth (KX _ _ lk) rfl S.co S.gen rfl (PySem.W.codeRec_of KX hcd) (hb _ _ _ _ ?_)
  refine wpAny_newFunctionEnv_cells S.kind knd fun env he s1 z => ?_
  subst he
  refine ⟨lim.keeps z.toInCall.keep, codeAny_func ?_⟩
  have gd : (A.deeper (envOfC x (defScope st) s.heap.objs.size f cdv)).guards = some [] := by first | exact hgd | (simpa [Around.deeper] using hgd)
  obtain ⟨t, ht, hq⟩ := hbody cdv A outer s H vs Q E gd (hr.deeper _) hsp
  have J0 : Inv (cxOf CX0 P w K mg base N x (defScope st) f cdv A outer s H E) [] (start N vs) H s1 := inv_start S hr.hd e0 (len _ _ _ _ hsp) r z
  refine wpAny_mono (ht.nox.run [] s1 (start N vs) H _ J0 hq) (fun fl s' hs => ?_) fun e s' hs => hs
  cases fl with
  | ret u =>
    obtain ⟨v, σ', H', J, rv, q⟩ := hs
    exact ⟨v, H', J.os, J.bare, J.base, J.hok, rv, q⟩
  | next =>
    obtain ⟨σ', H', J, q⟩ := hs
    exact ⟨V.non, H', J.os, J.bare, J.base, J.hok, rfl, q⟩
  | brk =>
    obtain ⟨_, _, _, q⟩ := hs
    exact q.elim
  | cont =>
    obtain ⟨_, _, _, q⟩ := hs
    exact q.elim
theorem calG_of {x : Str} {st : Stmt} {N ps : List Str} {k : Nat} {sp : Sp} (D : DefAt K mg x st) (S : FnScope N ps (defScope st)) (len : ∀ vs H Q E, sp vs H Q E → vs.length = ps.length)
    (hb : ∀ (kV doc pm : Value) (an : Option Addr) (cdv ct : Value) (us : List Value), us.length = ps.length → bindArgs (PySem.W.fnOf x x (defArgs st) (defBody st) (defScope st) .none kV doc pm an cdv ct) ⟨us, []⟩ = pure (ps.zip us))
    (hbody : ∀ (f : Addr) (cdv : Value) (A : Around) (outer : List Env) (s : Shared) (H : Hp) (vs : List V) (Q : VK) (E : XK), (A.deeper (envOfC x (defScope st) s.heap.objs.size f cdv)).guards = some [] → Room k (A.deeper (envOfC x (defScope st) s.heap.objs.size f cdv)) → sp vs H Q E →
      ∃ t, PSs (cxOf CX0 P w K mg base N x (defScope st) f cdv A outer s H E).nox (defBody st) t ∧ t { nx := fun _ H' => Q .non H', rt := Q } (start N vs) H) : CalG P w K mg base (k + 1) x sp := by
  obtain ⟨f, fd, F, hm⟩ := D.ex
  refine ⟨f, fd, ps, fnG_of F S len (hbody f), hm, F.kp, binds_of F fun kV doc pm an cdv ct us hl => hb kV doc pm an cdv ct us hl⟩
end
/-- such a def, called where no repr is under way -/
theorem pe_cG {X : Cx} {k j : Nat} {x : Str} {sp : Sp} {p pos : Pos} {e : Expr} {es : List Expr} {t : TA} (c : CalG X.prog X.w X.K X.mg X.base k x sp) (gd : X.A.guards = some []) (hr : Room j X.A) (hk : k ≤ j) (hg : Gl X x) (ha : PA X (e :: es) t)
    (hdb : (x == ("__debug__" : Str)) = false := by decide) (he : starEach (e :: es) X.env = (false, eval e X.env) :: starEach es X.env := by rfl) (hpl : (backTo pos (starEach es X.env)).any (·.1) = false := by rfl) :
    PE X (.Call (.Name x p) (e :: es) [] pos) (tCall sp [] E0 t) := by
  obtain ⟨f, fd, ps, F, hm, kp, b⟩ := c.ex
  refine ⟨fun pins s σ H Q I h => ?_⟩
  refine wpAny_Call_Name_kw (ld_glob I hg hm ?_ hdb)
  refine PySem.W.callWith_K (h₀ := X.base) I.ok.mod.kin kp (thn (ha.run pos pins s σ H _ I h) fun us s1 ⟨vs, H1, I1, r, q⟩ => ⟨I1.kIn, ?_⟩) he hpl
  have q : sp (vs ++ []) H1 Q E0 := q
  rw [List.append_nil] at q
  have hl : us.length = ps.length := by rw [← r.length]; exact F.len _ _ _ _ q
  refine wpAny_call (codeAny_mono (F.run X.A X.stack s1 H1 ⟨us, []⟩ us vs Q E0 gd (hr.mono hk) I1.env0 (by simpa using b s1 us I1.kIn (by simpa using hl)) r q) fun r s' hq => ?_)
  cases r with
  | error e => exact hq.elim
  | ok fl =>
    cases fl with
    | ret u => exact I1.after hq
    | next => exact hq.elim
    | brk => exact hq.elim
    | cont => exact hq.elim
/-- the law's promise at the heap behind the top, where no repr is under way -/
theorem law_callG {P : Program} {w : World} {K : PySem.W.Frag} {mg mb : Str → Option Value} {k : Nat} {fa a : Addr} {fd : FuncData} {x : Str} {sp : Sp} {s1 : Shared} {vs : List Value} {ns : List Int}
    (KX : K.In s1.heap) (hns : s1.heap.Ns mainGlobals mg) (hb : s1.heap.Ns builtinsNs mb) (hbb : ∀ x : Str, x ≠ "__name__" → mb x = bootBuiltins x) (hlim : s1.heap.NoLimit) (hg : s1.gens = #[])
    (ha : s1.heap.get? a = some { cls := .type "list", data := .seq vs.toArray }) (hi : IntsAre vs ns) (hl : ns.length ≤ sizeLine) (hr : Room k callerA)
    (F : ∀ base : Heap, K.In base → base.Ns mainGlobals mg → FnG P w K mg base k fa fd [x] sp) (hbind : ∀ (s : Shared) (u : Value), BindsTo s fd ⟨[u], []⟩ [(x, u)])
    (hsp : ∀ H : Hp, Only H → SqL K H a (ns.map V.int) → sp [.ref a] H (fun v _ => v = .bl true) E0) :
    codeAny (model P w) callerA (.call (.ref fa) ⟨[.ref a], []⟩) (fun r s' => r = .ok (.ret (.bool true)) ∧ OldK s1.heap s'.heap ∧ s'.os = s1.os ∧ AllBare s'.gens) s1 := by
  have rv := vals_ints hi
  have lenV := hi.length
  suffices go : ∀ H : Hp, Only H → SqL K H a (ns.map V.int) → HOk P w H s1.heap → (∀ b, H b ≠ none → b = a) → (H a ≠ none → K.lookup a = none) →
      codeAny (model P w) callerA (.call (.ref fa) ⟨[.ref a], []⟩) (fun r s' => r = .ok (.ret (.bool true)) ∧ OldK s1.heap s'.heap ∧ s'.os = s1.os ∧ AllBare s'.gens) s1 by
    rcases hk : K.lookup a with _ | o
    · have at_a : ∀ b (u : HO), (if b = a then some (HO.frz { cls := .type "list", data := .seq vs.toArray } (.lst (ns.map V.int))) else none) = some u → b = a ∧ u = HO.frz { cls := .type "list", data := .seq vs.toArray } (.lst (ns.map V.int)) := fun b u z => by
        by_cases e : b = a
        · rw [if_pos e] at z
          exact ⟨e, (Option.some.inj z).symm⟩
        · rw [if_neg e] at z
          cases z
      refine go (fun b => if b = a then some (.frz { cls := .type "list", data := .seq vs.toArray } (.lst (ns.map V.int))) else none) (fun b => ?_) (.inl (.inr ⟨{ cls := .type "list", data := .seq vs.toArray }, if_pos rfl⟩)) (fun b u z => ?_) (fun b z => ?_) fun _ => hk
      · by_cases e : b = a
        · exact .inr ⟨_, _, if_pos e⟩
        · exact .inl (if_neg e)
      · obtain ⟨rfl, rfl⟩ := at_a b u z
        exact ⟨ha, by rw [List.length_map]; exact hl, vs, _, rv, ha⟩
      · cases q : (if b = a then some (HO.frz { cls := .type "list", data := .seq vs.toArray } (.lst (ns.map V.int))) else none) with
        | none => exact absurd q z
        | some u => exact (at_a b u q).1
    · have e := KX a o hk
      rw [ha] at e
      cases e
      exact go (fun _ => none) (fun _ => .inl rfl) (.inr ⟨_, vs.toArray, _, hk, rfl, rfl, rfl, by rw [List.size_toArray, lenV]; exact hl, by simpa using rv⟩) (fun b u z => by cases (show (none : Option HO) = some u from z)) (fun b z => absurd rfl z) fun z => absurd rfl z
  intro H hO hS hok hA hK
  have tr : ∀ {b : Addr} {u : HO}, H b = some u → b = a := fun {b u} q => hA b (by rw [q]; simp)
  have dnone : ∀ {b : Addr} {o : Obj} {es : Array DictEntry} {ep : Nat}, s1.heap.get? b = some o → o.data = .dict es ep → H b = none := fun {b o es ep} e d => by
    rcases q : H b with _ | u
    · rfl
    · cases tr q
      rw [ha] at e
      cases e
      cases (show Data.seq vs.toArray _ = Data.dict es ep from d)
  have nsT : ∀ {b : Addr} {m : Str → Option Value}, s1.heap.Ns b m → (hidT s1.heap H).Ns b m := fun {b m} ⟨o, es, ep, e, d, r⟩ => ⟨o, es, ep, hidT_get e (dnone e d), d, r⟩
  have kin : K.In (hidT s1.heap H) := fun b o e => hidT_get (KX b o e) (by
    rcases q : H b with _ | u
    · rfl
    · cases tr q
      rw [hK (by rw [q]; simp)] at e
      cases e)
  have md : Mod K mg (hidT s1.heap H) := ⟨kin, nsT hns, ⟨mb, nsT hb, hbb⟩, let ⟨mc, h1, h2⟩ := hlim; ⟨mc, nsT h1, h2⟩⟩
  have e0 : Env0 P w K mg (hidT s1.heap H) callerA [] s1 H := ⟨rfl, md, fun b o e => of_hidT e, Nat.le_of_eq (hidT_size _ _), trivial, fun b hb => absurd (show b ∈ ([] : List Addr) from hb) (by simp), hok, .of_eq hg⟩
  refine codeAny_mono ((F _ kin (nsT hns)).run callerA [] s1 H ⟨[.ref a], []⟩ [.ref a] [.ref a] _ _ rfl hr e0 (hbind s1 (.ref a)) (.cons rfl .nil) (hsp H hO hS)) fun r s' h => ?_
  rcases r with e | fl
  · exact h.elim
  · cases fl with
    | next => exact h.elim
    | brk => exact h.elim
    | cont => exact h.elim
    | ret u =>
      obtain ⟨v, H', os, bare, un, hok', r', q⟩ := h
      cases (show v = .bl true from q)
      cases (show u = Value.bool true from r')
      refine ⟨rfl, OldK.of_keep fun b o e => ?_, os, bare⟩
      rcases q : H b with _ | u
      · exact un.keep b o e q (fun z => absurd (show b ∈ ([] : List Addr) from z) (by simp)) (by simp)
      · rcases hO b with z | ⟨ob, xs, z⟩
        · rw [q] at z
          cases z
        · obtain ⟨e1, _⟩ := hok b _ z
          obtain ⟨e2, _⟩ := hok' b _ (un.frzs b ob _ z)
          rw [e] at e1
          cases e1
          exact e2
/-- the law's end -/
theorem walk_ofG {l : PySem.W.OpenLaw} {n k : Nat} {q : Program} {loose : List Str} {XP : (Str → Option Value) → Heap → Prop} {YP : World → Heap → Prop} {d : DefRec} {x : Str}
    (hn : l.most = some n) (hn2 : n ≤ sizeLine) (hdf : d.params.defaults = []) (hr : Room k callerA)
    (F : ∀ (w : World) (mg : Str → Option Value) (fa : Addr) (h : Heap), YP w h → h.Ns mainGlobals mg → mg d.name = some (.ref fa) →
      ∃ (K : PySem.W.Frag) (fd : FuncData) (sp : Sp), K.In h ∧ (∀ (s : Shared) (u : Value), BindsTo s fd ⟨[u], []⟩ [(x, u)]) ∧
        (∀ (H : Hp) (a : Addr) (ns : List Int), ns.length ≤ n → Only H → SqL K H a (ns.map V.int) → sp [.ref a] H (fun v _ => v = .bl true) E0) ∧
        ∀ base : Heap, K.In base → base.Ns mainGlobals mg → FnG l.prog w K mg base k fa fd [x] sp) :
    PySem.W.WalkO q loose XP YP l.row.toRowW d [] (fun f vs => PySem.call f vs) := by
  refine Att.attach_call hn hdf fun w s0 s1 mg mb fa o pm cd doc a vs ns G Y ho hd hcd hmg hobj hints hlen hg => ?_
  obtain ⟨K, fd, sp, KX, hb, hsp, hF⟩ := F w mg fa _ Y G.T.g hmg
  exact law_callG KX G.T.g G.T.b G.T.builtins G.T.nolimit hg hobj hints (Nat.le_trans hlen hn2) hr hF hb (fun H hO hS => hsp H a ns hlen hO hS)
end K41
/-! the text's facts, its scopes -/
namespace K41
open PySem PySem.Spec PyProof.Rows L2
open C8 (Cal pe_c)
structure Txt (K : PySem.W.Frag) (mg : Str → Option Value) : Prop where
  d_names_of : DefAt K mg "names_of" s_names_of
  d_machine_of : DefAt K mg "machine_of" s_machine_of
  d_time_of : DefAt K mg "time_of" s_time_of
  d_purses_of : DefAt K mg "purses_of" s_purses_of
  d_arcs_of : DefAt K mg "arcs_of" s_arcs_of
  d_start_of : DefAt K mg "start_of" s_start_of
  d_end_of : DefAt K mg "end_of" s_end_of
  d_growth_of : DefAt K mg "growth_of" s_growth_of
  d_does_end : DefAt K mg "does_end" s_does_end
  d_is_integer : DefAt K mg "is_integer" s_is_integer
  d_is_count : DefAt K mg "is_count" s_is_count
  d_still_arcs : DefAt K mg "still_arcs" s_still_arcs
  d_least_back : DefAt K mg "least_back" s_least_back
  d_dead_ring : DefAt K mg "dead_ring" s_dead_ring
  d_rise : DefAt K mg "rise" s_rise
  d_ticks_at : DefAt K mg "ticks_at" s_ticks_at
  d_links_of : DefAt K mg "links_of" s_links_of
  d_told_by : DefAt K mg "told_by" s_told_by
  d_is_kept : DefAt K mg "is_kept" s_is_kept
  d_is_run : DefAt K mg "is_run" s_is_run
  d_is_earlier : DefAt K mg "is_earlier" s_is_earlier
  d_greatest_run : DefAt K mg "greatest_run" s_greatest_run
  d_least_run : DefAt K mg "least_run" s_least_run
  d_led : DefAt K mg "led" s_led
  d_held_back : DefAt K mg "held_back" s_held_back
  d_floors_of : DefAt K mg "floors_of" s_floors_of
  d__law_bag : DefAt K mg "_law_bag" s__law_bag
  d__law_take : DefAt K mg "_law_take" s__law_take
  d__law_mixed : DefAt K mg "_law_mixed" s__law_mixed
  d__law_some : DefAt K mg "_law_some" s__law_some
  d__law_purses : DefAt K mg "_law_purses" s__law_purses
  d__law_first : DefAt K mg "_law_first" s__law_first
  d__law_web : DefAt K mg "_law_web" s__law_web
  d__law_names : DefAt K mg "_law_names" s__law_names
  d__law_arcs : DefAt K mg "_law_arcs" s__law_arcs
  d__law_is_live : DefAt K mg "_law_is_live" s__law_is_live
  d__law_hall : DefAt K mg "_law_hall" s__law_hall
  d__law_small : DefAt K mg "_law_small" s__law_small
  d__law_stops : DefAt K mg "_law_stops" s__law_stops
  d__law_any_stops : DefAt K mg "_law_any_stops" s__law_any_stops
  d__law_floors : DefAt K mg "_law_floors" s__law_floors
  d__law_alike : DefAt K mg "_law_alike" s__law_alike
  d__law_rows : DefAt K mg "_law_rows" s__law_rows
  d__law_machine : DefAt K mg "_law_machine" s__law_machine
  d__law_work : DefAt K mg "_law_work" s__law_work
  d__law_held_run : DefAt K mg "_law_held_run" s__law_held_run
  d__law_is_int : DefAt K mg "_law_is_int" s__law_is_int
  d__law_counts : DefAt K mg "_law_counts" s__law_counts
  d__law_runs_right : DefAt K mg "_law_runs_right" s__law_runs_right
  d__law_is_run : DefAt K mg "_law_is_run" s__law_is_run
  d_law : DefAt K mg "law" s_law
  b_abs : mg "abs" = none
  b_all : mg "all" = none
  b_any : mg "any" = none
  b_bool : mg "bool" = none
  b_dict : mg "dict" = none
  b_enumerate : mg "enumerate" = none
  b_int : mg "int" = none
  b_isinstance : mg "isinstance" = none
  b_len : mg "len" = none
  b_list : mg "list" = none
  b_max : mg "max" = none
  b_min : mg "min" = none
  b_range : mg "range" = none
  b_repr : mg "repr" = none
  b_sorted : mg "sorted" = none
  b_sum : mg "sum" = none
  b_tuple : mg "tuple" = none
  b_zip : mg "zip" = none
/-! ### the names of each def, parameters first -/
abbrev n_names_of : List Str := ["hall", "machine"]
abbrev p_names_of : List Str := ["hall"]
theorem sc_names_of : FnScope n_names_of p_names_of (defScope s_names_of) := C8.fnScope_by (by decide +kernel)
theorem bi_names_of (kV doc pm : Value) (an : Option Addr) (cdv ct : Value) (us : List Value) (hl : us.length = p_names_of.length) : bindArgs (PySem.W.fnOf "names_of" "names_of" (defArgs s_names_of) (defBody s_names_of) (defScope s_names_of) .none kV doc pm an cdv ct) ⟨us, []⟩ = pure (p_names_of.zip us) := match us, hl with | [_], _ => rfl
abbrev n_machine_of : List Str := ["hall", "name", "machine"]
abbrev p_machine_of : List Str := ["hall", "name"]
theorem sc_machine_of : FnScope n_machine_of p_machine_of (defScope s_machine_of) := C8.fnScope_by (by decide +kernel)
theorem bi_machine_of (kV doc pm : Value) (an : Option Addr) (cdv ct : Value) (us : List Value) (hl : us.length = p_machine_of.length) : bindArgs (PySem.W.fnOf "machine_of" "machine_of" (defArgs s_machine_of) (defBody s_machine_of) (defScope s_machine_of) .none kV doc pm an cdv ct) ⟨us, []⟩ = pure (p_machine_of.zip us) := match us, hl with | [_, _], _ => rfl
abbrev n_time_of : List Str := ["hall", "name"]
abbrev p_time_of : List Str := ["hall", "name"]
theorem sc_time_of : FnScope n_time_of p_time_of (defScope s_time_of) := C8.fnScope_by (by decide +kernel)
theorem bi_time_of (kV doc pm : Value) (an : Option Addr) (cdv ct : Value) (us : List Value) (hl : us.length = p_time_of.length) : bindArgs (PySem.W.fnOf "time_of" "time_of" (defArgs s_time_of) (defBody s_time_of) (defScope s_time_of) .none kV doc pm an cdv ct) ⟨us, []⟩ = pure (p_time_of.zip us) := match us, hl with | [_, _], _ => rfl
abbrev n_purses_of : List Str := ["hall", "name"]
abbrev p_purses_of : List Str := ["hall", "name"]
theorem sc_purses_of : FnScope n_purses_of p_purses_of (defScope s_purses_of) := C8.fnScope_by (by decide +kernel)
theorem bi_purses_of (kV doc pm : Value) (an : Option Addr) (cdv ct : Value) (us : List Value) (hl : us.length = p_purses_of.length) : bindArgs (PySem.W.fnOf "purses_of" "purses_of" (defArgs s_purses_of) (defBody s_purses_of) (defScope s_purses_of) .none kV doc pm an cdv ct) ⟨us, []⟩ = pure (p_purses_of.zip us) := match us, hl with | [_, _], _ => rfl
abbrev n_arcs_of : List Str := ["hall", "found", "name", "index"]
abbrev p_arcs_of : List Str := ["hall"]
theorem sc_arcs_of : FnScope n_arcs_of p_arcs_of (defScope s_arcs_of) := C8.fnScope_by (by decide +kernel)
theorem bi_arcs_of (kV doc pm : Value) (an : Option Addr) (cdv ct : Value) (us : List Value) (hl : us.length = p_arcs_of.length) : bindArgs (PySem.W.fnOf "arcs_of" "arcs_of" (defArgs s_arcs_of) (defBody s_arcs_of) (defScope s_arcs_of) .none kV doc pm an cdv ct) ⟨us, []⟩ = pure (p_arcs_of.zip us) := match us, hl with | [_], _ => rfl
abbrev n_start_of : List Str := ["hall", "arc", "word", "place"]
abbrev p_start_of : List Str := ["hall", "arc"]
theorem sc_start_of : FnScope n_start_of p_start_of (defScope s_start_of) := C8.fnScope_by (by decide +kernel)
theorem bi_start_of (kV doc pm : Value) (an : Option Addr) (cdv ct : Value) (us : List Value) (hl : us.length = p_start_of.length) : bindArgs (PySem.W.fnOf "start_of" "start_of" (defArgs s_start_of) (defBody s_start_of) (defScope s_start_of) .none kV doc pm an cdv ct) ⟨us, []⟩ = pure (p_start_of.zip us) := match us, hl with | [_, _], _ => rfl
abbrev n_end_of : List Str := ["hall", "arc", "word", "place"]
abbrev p_end_of : List Str := ["hall", "arc"]
theorem sc_end_of : FnScope n_end_of p_end_of (defScope s_end_of) := C8.fnScope_by (by decide +kernel)
theorem bi_end_of (kV doc pm : Value) (an : Option Addr) (cdv ct : Value) (us : List Value) (hl : us.length = p_end_of.length) : bindArgs (PySem.W.fnOf "end_of" "end_of" (defArgs s_end_of) (defBody s_end_of) (defScope s_end_of) .none kV doc pm an cdv ct) ⟨us, []⟩ = pure (p_end_of.zip us) := match us, hl with | [_, _], _ => rfl
abbrev n_growth_of : List Str := ["hall", "arc", "word", "place", "start", "end", "room", "first"]
abbrev p_growth_of : List Str := ["hall", "arc"]
theorem sc_growth_of : FnScope n_growth_of p_growth_of (defScope s_growth_of) := C8.fnScope_by (by decide +kernel)
theorem bi_growth_of (kV doc pm : Value) (an : Option Addr) (cdv ct : Value) (us : List Value) (hl : us.length = p_growth_of.length) : bindArgs (PySem.W.fnOf "growth_of" "growth_of" (defArgs s_growth_of) (defBody s_growth_of) (defScope s_growth_of) .none kV doc pm an cdv ct) ⟨us, []⟩ = pure (p_growth_of.zip us) := match us, hl with | [_, _], _ => rfl
abbrev n_does_end : List Str := ["arc"]
abbrev p_does_end : List Str := ["arc"]
theorem sc_does_end : FnScope n_does_end p_does_end (defScope s_does_end) := C8.fnScope_by (by decide +kernel)
theorem bi_does_end (kV doc pm : Value) (an : Option Addr) (cdv ct : Value) (us : List Value) (hl : us.length = p_does_end.length) : bindArgs (PySem.W.fnOf "does_end" "does_end" (defArgs s_does_end) (defBody s_does_end) (defScope s_does_end) .none kV doc pm an cdv ct) ⟨us, []⟩ = pure (p_does_end.zip us) := match us, hl with | [_], _ => rfl
abbrev n_is_integer : List Str := ["thing"]
abbrev p_is_integer : List Str := ["thing"]
theorem sc_is_integer : FnScope n_is_integer p_is_integer (defScope s_is_integer) := C8.fnScope_by (by decide +kernel)
theorem bi_is_integer (kV doc pm : Value) (an : Option Addr) (cdv ct : Value) (us : List Value) (hl : us.length = p_is_integer.length) : bindArgs (PySem.W.fnOf "is_integer" "is_integer" (defArgs s_is_integer) (defBody s_is_integer) (defScope s_is_integer) .none kV doc pm an cdv ct) ⟨us, []⟩ = pure (p_is_integer.zip us) := match us, hl with | [_], _ => rfl
abbrev n_is_count : List Str := ["thing"]
abbrev p_is_count : List Str := ["thing"]
theorem sc_is_count : FnScope n_is_count p_is_count (defScope s_is_count) := C8.fnScope_by (by decide +kernel)
theorem bi_is_count (kV doc pm : Value) (an : Option Addr) (cdv ct : Value) (us : List Value) (hl : us.length = p_is_count.length) : bindArgs (PySem.W.fnOf "is_count" "is_count" (defArgs s_is_count) (defBody s_is_count) (defScope s_is_count) .none kV doc pm an cdv ct) ⟨us, []⟩ = pure (p_is_count.zip us) := match us, hl with | [_], _ => rfl
abbrev n_still_arcs : List Str := ["hall", "arc"]
abbrev p_still_arcs : List Str := ["hall"]
theorem sc_still_arcs : FnScope n_still_arcs p_still_arcs (defScope s_still_arcs) := C8.fnScope_by (by decide +kernel)
theorem bi_still_arcs (kV doc pm : Value) (an : Option Addr) (cdv ct : Value) (us : List Value) (hl : us.length = p_still_arcs.length) : bindArgs (PySem.W.fnOf "still_arcs" "still_arcs" (defArgs s_still_arcs) (defBody s_still_arcs) (defScope s_still_arcs) .none kV doc pm an cdv ct) ⟨us, []⟩ = pure (p_still_arcs.zip us) := match us, hl with | [_], _ => rfl
abbrev n_least_back : List Str := ["hall", "name", "best", "waiting", "here", "arcs", "arc", "there", "way"]
abbrev p_least_back : List Str := ["hall", "name"]
theorem sc_least_back : FnScope n_least_back p_least_back (defScope s_least_back) := C8.fnScope_by (by decide +kernel)
theorem bi_least_back (kV doc pm : Value) (an : Option Addr) (cdv ct : Value) (us : List Value) (hl : us.length = p_least_back.length) : bindArgs (PySem.W.fnOf "least_back" "least_back" (defArgs s_least_back) (defBody s_least_back) (defScope s_least_back) .none kV doc pm an cdv ct) ⟨us, []⟩ = pure (p_least_back.zip us) := match us, hl with | [_, _], _ => rfl
abbrev n_dead_ring : List Str := ["hall", "found", "name", "rings", "one"]
abbrev p_dead_ring : List Str := ["hall"]
theorem sc_dead_ring : FnScope n_dead_ring p_dead_ring (defScope s_dead_ring) := C8.fnScope_by (by decide +kernel)
theorem bi_dead_ring (kV doc pm : Value) (an : Option Addr) (cdv ct : Value) (us : List Value) (hl : us.length = p_dead_ring.length) : bindArgs (PySem.W.fnOf "dead_ring" "dead_ring" (defArgs s_dead_ring) (defBody s_dead_ring) (defScope s_dead_ring) .none kV doc pm an cdv ct) ⟨us, []⟩ = pure (p_dead_ring.zip us) := match us, hl with | [_], _ => rfl
abbrev n_rise : List Str := ["hall", "ring", "found", "name", "turn", "arc", "end"]
abbrev p_rise : List Str := ["hall"]
theorem sc_rise : FnScope n_rise p_rise (defScope s_rise) := C8.fnScope_by (by decide +kernel)
theorem bi_rise (kV doc pm : Value) (an : Option Addr) (cdv ct : Value) (us : List Value) (hl : us.length = p_rise.length) : bindArgs (PySem.W.fnOf "rise" "rise" (defArgs s_rise) (defBody s_rise) (defScope s_rise) .none kV doc pm an cdv ct) ⟨us, []⟩ = pure (p_rise.zip us) := match us, hl with | [_], _ => rfl
abbrev n_ticks_at : List Str := ["hall", "stops", "name", "piece", "taken", "index"]
abbrev p_ticks_at : List Str := ["hall", "stops", "name", "piece"]
theorem sc_ticks_at : FnScope n_ticks_at p_ticks_at (defScope s_ticks_at) := C8.fnScope_by (by decide +kernel)
theorem bi_ticks_at (kV doc pm : Value) (an : Option Addr) (cdv ct : Value) (us : List Value) (hl : us.length = p_ticks_at.length) : bindArgs (PySem.W.fnOf "ticks_at" "ticks_at" (defArgs s_ticks_at) (defBody s_ticks_at) (defScope s_ticks_at) .none kV doc pm an cdv ct) ⟨us, []⟩ = pure (p_ticks_at.zip us) := match us, hl with | [_, _, _, _], _ => rfl
abbrev n_links_of : List Str := ["hall", "arc"]
abbrev p_links_of : List Str := ["hall"]
theorem sc_links_of : FnScope n_links_of p_links_of (defScope s_links_of) := C8.fnScope_by (by decide +kernel)
theorem bi_links_of (kV doc pm : Value) (an : Option Addr) (cdv ct : Value) (us : List Value) (hl : us.length = p_links_of.length) : bindArgs (PySem.W.fnOf "links_of" "links_of" (defArgs s_links_of) (defBody s_links_of) (defScope s_links_of) .none kV doc pm an cdv ct) ⟨us, []⟩ = pure (p_links_of.zip us) := match us, hl with | [_], _ => rfl
abbrev n_told_by : List Str := ["hall", "stops", "run", "link", "piece", "start", "_end", "growth", "ends", "begin"]
abbrev p_told_by : List Str := ["hall", "stops", "run", "link", "piece"]
theorem sc_told_by : FnScope n_told_by p_told_by (defScope s_told_by) := C8.fnScope_by (by decide +kernel)
theorem bi_told_by (kV doc pm : Value) (an : Option Addr) (cdv ct : Value) (us : List Value) (hl : us.length = p_told_by.length) : bindArgs (PySem.W.fnOf "told_by" "told_by" (defArgs s_told_by) (defBody s_told_by) (defScope s_told_by) .none kV doc pm an cdv ct) ⟨us, []⟩ = pure (p_told_by.zip us) := match us, hl with | [_, _, _, _, _], _ => rfl
abbrev n_is_kept : List Str := ["hall", "stops", "run", "link", "row", "piece"]
abbrev p_is_kept : List Str := ["hall", "stops", "run", "link"]
theorem sc_is_kept : FnScope n_is_kept p_is_kept (defScope s_is_kept) := C8.fnScope_by (by decide +kernel)
theorem bi_is_kept (kV doc pm : Value) (an : Option Addr) (cdv ct : Value) (us : List Value) (hl : us.length = p_is_kept.length) : bindArgs (PySem.W.fnOf "is_kept" "is_kept" (defArgs s_is_kept) (defBody s_is_kept) (defScope s_is_kept) .none kV doc pm an cdv ct) ⟨us, []⟩ = pure (p_is_kept.zip us) := match us, hl with | [_, _, _, _], _ => rfl
abbrev n_is_run : List Str := ["hall", "stops", "thing", "names", "name", "rows", "begin", "row", "link"]
abbrev p_is_run : List Str := ["hall", "stops", "thing"]
theorem sc_is_run : FnScope n_is_run p_is_run (defScope s_is_run) := C8.fnScope_by (by decide +kernel)
theorem bi_is_run (kV doc pm : Value) (an : Option Addr) (cdv ct : Value) (us : List Value) (hl : us.length = p_is_run.length) : bindArgs (PySem.W.fnOf "is_run" "is_run" (defArgs s_is_run) (defBody s_is_run) (defScope s_is_run) .none kV doc pm an cdv ct) ⟨us, []⟩ = pure (p_is_run.zip us) := match us, hl with | [_, _, _], _ => rfl
abbrev n_is_earlier : List Str := ["one", "other", "name", "mine", "its"]
abbrev p_is_earlier : List Str := ["one", "other"]
theorem sc_is_earlier : FnScope n_is_earlier p_is_earlier (defScope s_is_earlier) := C8.fnScope_by (by decide +kernel)
theorem bi_is_earlier (kV doc pm : Value) (an : Option Addr) (cdv ct : Value) (us : List Value) (hl : us.length = p_is_earlier.length) : bindArgs (PySem.W.fnOf "is_earlier" "is_earlier" (defArgs s_is_earlier) (defBody s_is_earlier) (defScope s_is_earlier) .none kV doc pm an cdv ct) ⟨us, []⟩ = pure (p_is_earlier.zip us) := match us, hl with | [_, _], _ => rfl
abbrev n_greatest_run : List Str := ["one", "other", "mine", "its", "name"]
abbrev p_greatest_run : List Str := ["one", "other"]
theorem sc_greatest_run : FnScope n_greatest_run p_greatest_run (defScope s_greatest_run) := C8.fnScope_by (by decide +kernel)
theorem bi_greatest_run (kV doc pm : Value) (an : Option Addr) (cdv ct : Value) (us : List Value) (hl : us.length = p_greatest_run.length) : bindArgs (PySem.W.fnOf "greatest_run" "greatest_run" (defArgs s_greatest_run) (defBody s_greatest_run) (defScope s_greatest_run) .none kV doc pm an cdv ct) ⟨us, []⟩ = pure (p_greatest_run.zip us) := match us, hl with | [_, _], _ => rfl
abbrev n_least_run : List Str := ["one", "other", "mine", "its", "name"]
abbrev p_least_run : List Str := ["one", "other"]
theorem sc_least_run : FnScope n_least_run p_least_run (defScope s_least_run) := C8.fnScope_by (by decide +kernel)
theorem bi_least_run (kV doc pm : Value) (an : Option Addr) (cdv ct : Value) (us : List Value) (hl : us.length = p_least_run.length) : bindArgs (PySem.W.fnOf "least_run" "least_run" (defArgs s_least_run) (defBody s_least_run) (defScope s_least_run) .none kV doc pm an cdv ct) ⟨us, []⟩ = pure (p_least_run.zip us) := match us, hl with | [_, _], _ => rfl
abbrev n_led : List Str := ["hall", "stops", "links", "floors", "many", "heights", "order", "height", "name", "found", "piece", "begin", "link"]
abbrev p_led : List Str := ["hall", "stops", "links", "floors", "many"]
theorem sc_led : FnScope n_led p_led (defScope s_led) := C8.fnScope_by (by decide +kernel)
theorem bi_led (kV doc pm : Value) (an : Option Addr) (cdv ct : Value) (us : List Value) (hl : us.length = p_led.length) : bindArgs (PySem.W.fnOf "led" "led" (defArgs s_led) (defBody s_led) (defScope s_led) .none kV doc pm an cdv ct) ⟨us, []⟩ = pure (p_led.zip us) := match us, hl with | [_, _, _, _, _], _ => rfl
abbrev n_held_back : List Str := ["hall", "stops", "floors", "many"]
abbrev p_held_back : List Str := ["hall", "stops", "floors", "many"]
theorem sc_held_back : FnScope n_held_back p_held_back (defScope s_held_back) := C8.fnScope_by (by decide +kernel)
theorem bi_held_back (kV doc pm : Value) (an : Option Addr) (cdv ct : Value) (us : List Value) (hl : us.length = p_held_back.length) : bindArgs (PySem.W.fnOf "held_back" "held_back" (defArgs s_held_back) (defBody s_held_back) (defScope s_held_back) .none kV doc pm an cdv ct) ⟨us, []⟩ = pure (p_held_back.zip us) := match us, hl with | [_, _, _, _], _ => rfl
abbrev n_floors_of : List Str := ["run", "name", "piece", "begin"]
abbrev p_floors_of : List Str := ["run"]
theorem sc_floors_of : FnScope n_floors_of p_floors_of (defScope s_floors_of) := C8.fnScope_by (by decide +kernel)
theorem bi_floors_of (kV doc pm : Value) (an : Option Addr) (cdv ct : Value) (us : List Value) (hl : us.length = p_floors_of.length) : bindArgs (PySem.W.fnOf "floors_of" "floors_of" (defArgs s_floors_of) (defBody s_floors_of) (defScope s_floors_of) .none kV doc pm an cdv ct) ⟨us, []⟩ = pure (p_floors_of.zip us) := match us, hl with | [_], _ => rfl
abbrev n__law_bag : List Str := ["_law_script", "_law_cell"]
abbrev p__law_bag : List Str := ["_law_script"]
theorem sc__law_bag : FnScope n__law_bag p__law_bag (defScope s__law_bag) := C8.fnScope_by (by decide +kernel)
theorem bi__law_bag (kV doc pm : Value) (an : Option Addr) (cdv ct : Value) (us : List Value) (hl : us.length = p__law_bag.length) : bindArgs (PySem.W.fnOf "_law_bag" "_law_bag" (defArgs s__law_bag) (defBody s__law_bag) (defScope s__law_bag) .none kV doc pm an cdv ct) ⟨us, []⟩ = pure (p__law_bag.zip us) := match us, hl with | [_], _ => rfl
abbrev n__law_take : List Str := ["_law_bag_here", "_law_many", "_law_cell", "_law_stirred", "_law_value", "_law_begin", "_law_second"]
abbrev p__law_take : List Str := ["_law_bag_here", "_law_many"]
theorem sc__law_take : FnScope n__law_take p__law_take (defScope s__law_take) := C8.fnScope_by (by decide +kernel)
theorem bi__law_take (kV doc pm : Value) (an : Option Addr) (cdv ct : Value) (us : List Value) (hl : us.length = p__law_take.length) : bindArgs (PySem.W.fnOf "_law_take" "_law_take" (defArgs s__law_take) (defBody s__law_take) (defScope s__law_take) .none kV doc pm an cdv ct) ⟨us, []⟩ = pure (p__law_take.zip us) := match us, hl with | [_, _], _ => rfl
abbrev n__law_mixed : List Str := ["_law_bag_here", "_law_things", "_law_found", "_law_thing"]
abbrev p__law_mixed : List Str := ["_law_bag_here", "_law_things"]
theorem sc__law_mixed : FnScope n__law_mixed p__law_mixed (defScope s__law_mixed) := C8.fnScope_by (by decide +kernel)
theorem bi__law_mixed (kV doc pm : Value) (an : Option Addr) (cdv ct : Value) (us : List Value) (hl : us.length = p__law_mixed.length) : bindArgs (PySem.W.fnOf "_law_mixed" "_law_mixed" (defArgs s__law_mixed) (defBody s__law_mixed) (defScope s__law_mixed) .none kV doc pm an cdv ct) ⟨us, []⟩ = pure (p__law_mixed.zip us) := match us, hl with | [_, _], _ => rfl
abbrev n__law_some : List Str := ["_law_bag_here", "_law_things"]
abbrev p__law_some : List Str := ["_law_bag_here", "_law_things"]
theorem sc__law_some : FnScope n__law_some p__law_some (defScope s__law_some) := C8.fnScope_by (by decide +kernel)
theorem bi__law_some (kV doc pm : Value) (an : Option Addr) (cdv ct : Value) (us : List Value) (hl : us.length = p__law_some.length) : bindArgs (PySem.W.fnOf "_law_some" "_law_some" (defArgs s__law_some) (defBody s__law_some) (defScope s__law_some) .none kV doc pm an cdv ct) ⟨us, []⟩ = pure (p__law_some.zip us) := match us, hl with | [_, _], _ => rfl
abbrev n__law_purses : List Str := ["_law_bag_here", "_law_most", "_law_many", "_law_turn"]
abbrev p__law_purses : List Str := ["_law_bag_here", "_law_most"]
theorem sc__law_purses : FnScope n__law_purses p__law_purses (defScope s__law_purses) := C8.fnScope_by (by decide +kernel)
theorem bi__law_purses (kV doc pm : Value) (an : Option Addr) (cdv ct : Value) (us : List Value) (hl : us.length = p__law_purses.length) : bindArgs (PySem.W.fnOf "_law_purses" "_law_purses" (defArgs s__law_purses) (defBody s__law_purses) (defScope s__law_purses) .none kV doc pm an cdv ct) ⟨us, []⟩ = pure (p__law_purses.zip us) := match us, hl with | [_, _], _ => rfl
abbrev n__law_first : List Str := ["_law_bag_here", "_law_room"]
abbrev p__law_first : List Str := ["_law_bag_here", "_law_room"]
theorem sc__law_first : FnScope n__law_first p__law_first (defScope s__law_first) := C8.fnScope_by (by decide +kernel)
theorem bi__law_first (kV doc pm : Value) (an : Option Addr) (cdv ct : Value) (us : List Value) (hl : us.length = p__law_first.length) : bindArgs (PySem.W.fnOf "_law_first" "_law_first" (defArgs s__law_first) (defBody s__law_first) (defScope s__law_first) .none kV doc pm an cdv ct) ⟨us, []⟩ = pure (p__law_first.zip us) := match us, hl with | [_, _], _ => rfl
abbrev n__law_web : List Str := ["_law_bag_here", "_law_machines", "_law_most", "_law_names_here", "_law_filler", "_law_pace", "_law_found", "_law_belts", "_law_joined", "_law_name", "_law_time", "_law_room", "_law_other", "_law_first_here", "_law_turn", "_law_start", "_law_end"]
abbrev p__law_web : List Str := ["_law_bag_here", "_law_machines", "_law_most"]
theorem sc__law_web : FnScope n__law_web p__law_web (defScope s__law_web) := C8.fnScope_by (by decide +kernel)
theorem bi__law_web (kV doc pm : Value) (an : Option Addr) (cdv ct : Value) (us : List Value) (hl : us.length = p__law_web.length) : bindArgs (PySem.W.fnOf "_law_web" "_law_web" (defArgs s__law_web) (defBody s__law_web) (defScope s__law_web) .none kV doc pm an cdv ct) ⟨us, []⟩ = pure (p__law_web.zip us) := match us, hl with | [_, _, _], _ => rfl
abbrev n__law_names : List Str := ["_law_hall_here", "_law_machine_here"]
abbrev p__law_names : List Str := ["_law_hall_here"]
theorem sc__law_names : FnScope n__law_names p__law_names (defScope s__law_names) := C8.fnScope_by (by decide +kernel)
theorem bi__law_names (kV doc pm : Value) (an : Option Addr) (cdv ct : Value) (us : List Value) (hl : us.length = p__law_names.length) : bindArgs (PySem.W.fnOf "_law_names" "_law_names" (defArgs s__law_names) (defBody s__law_names) (defScope s__law_names) .none kV doc pm an cdv ct) ⟨us, []⟩ = pure (p__law_names.zip us) := match us, hl with | [_], _ => rfl
abbrev n__law_arcs : List Str := ["_law_hall_here", "_law_name", "_law_found", "_law_at", "_law_belt"]
abbrev p__law_arcs : List Str := ["_law_hall_here", "_law_name"]
theorem sc__law_arcs : FnScope n__law_arcs p__law_arcs (defScope s__law_arcs) := C8.fnScope_by (by decide +kernel)
theorem bi__law_arcs (kV doc pm : Value) (an : Option Addr) (cdv ct : Value) (us : List Value) (hl : us.length = p__law_arcs.length) : bindArgs (PySem.W.fnOf "_law_arcs" "_law_arcs" (defArgs s__law_arcs) (defBody s__law_arcs) (defScope s__law_arcs) .none kV doc pm an cdv ct) ⟨us, []⟩ = pure (p__law_arcs.zip us) := match us, hl with | [_, _], _ => rfl
abbrev n__law_is_live : List Str := ["_law_hall_here", "_law_left", "_law_turn", "_law_led", "_law_name", "_law_arc", "_law_end", "_law_growth"]
abbrev p__law_is_live : List Str := ["_law_hall_here"]
theorem sc__law_is_live : FnScope n__law_is_live p__law_is_live (defScope s__law_is_live) := C8.fnScope_by (by decide +kernel)
theorem bi__law_is_live (kV doc pm : Value) (an : Option Addr) (cdv ct : Value) (us : List Value) (hl : us.length = p__law_is_live.length) : bindArgs (PySem.W.fnOf "_law_is_live" "_law_is_live" (defArgs s__law_is_live) (defBody s__law_is_live) (defScope s__law_is_live) .none kV doc pm an cdv ct) ⟨us, []⟩ = pure (p__law_is_live.zip us) := match us, hl with | [_], _ => rfl
abbrev n__law_hall : List Str := ["_law_bag_here", "_law_machines", "_law_most", "_law_hall_here", "_law_belts", "_law_start", "_law_end", "_law_room", "_law_first_here"]
abbrev p__law_hall : List Str := ["_law_bag_here", "_law_machines", "_law_most"]
theorem sc__law_hall : FnScope n__law_hall p__law_hall (defScope s__law_hall) := C8.fnScope_by (by decide +kernel)
theorem bi__law_hall (kV doc pm : Value) (an : Option Addr) (cdv ct : Value) (us : List Value) (hl : us.length = p__law_hall.length) : bindArgs (PySem.W.fnOf "_law_hall" "_law_hall" (defArgs s__law_hall) (defBody s__law_hall) (defScope s__law_hall) .none kV doc pm an cdv ct) ⟨us, []⟩ = pure (p__law_hall.zip us) := match us, hl with | [_, _, _], _ => rfl
abbrev n__law_small : List Str := ["_law_bag_here"]
abbrev p__law_small : List Str := ["_law_bag_here"]
theorem sc__law_small : FnScope n__law_small p__law_small (defScope s__law_small) := C8.fnScope_by (by decide +kernel)
theorem bi__law_small (kV doc pm : Value) (an : Option Addr) (cdv ct : Value) (us : List Value) (hl : us.length = p__law_small.length) : bindArgs (PySem.W.fnOf "_law_small" "_law_small" (defArgs s__law_small) (defBody s__law_small) (defScope s__law_small) .none kV doc pm an cdv ct) ⟨us, []⟩ = pure (p__law_small.zip us) := match us, hl with | [_], _ => rfl
abbrev n__law_stops : List Str := ["_law_bag_here", "_law_hall_here", "_law_many", "_law_found", "_law_name", "_law_time", "_law_purses_here", "_law_index", "_law_size", "_law_back", "_law_has", "_law_share", "_law_piece", "_law_ticks"]
abbrev p__law_stops : List Str := ["_law_bag_here", "_law_hall_here", "_law_many"]
theorem sc__law_stops : FnScope n__law_stops p__law_stops (defScope s__law_stops) := C8.fnScope_by (by decide +kernel)
theorem bi__law_stops (kV doc pm : Value) (an : Option Addr) (cdv ct : Value) (us : List Value) (hl : us.length = p__law_stops.length) : bindArgs (PySem.W.fnOf "_law_stops" "_law_stops" (defArgs s__law_stops) (defBody s__law_stops) (defScope s__law_stops) .none kV doc pm an cdv ct) ⟨us, []⟩ = pure (p__law_stops.zip us) := match us, hl with | [_, _, _], _ => rfl
abbrev n__law_any_stops : List Str := ["_law_bag_here", "_law_hall_here", "_law_many", "_law_stops_here", "_law_key"]
abbrev p__law_any_stops : List Str := ["_law_bag_here", "_law_hall_here", "_law_many"]
theorem sc__law_any_stops : FnScope n__law_any_stops p__law_any_stops (defScope s__law_any_stops) := C8.fnScope_by (by decide +kernel)
theorem bi__law_any_stops (kV doc pm : Value) (an : Option Addr) (cdv ct : Value) (us : List Value) (hl : us.length = p__law_any_stops.length) : bindArgs (PySem.W.fnOf "_law_any_stops" "_law_any_stops" (defArgs s__law_any_stops) (defBody s__law_any_stops) (defScope s__law_any_stops) .none kV doc pm an cdv ct) ⟨us, []⟩ = pure (p__law_any_stops.zip us) := match us, hl with | [_, _, _], _ => rfl
abbrev n__law_floors : List Str := ["_law_bag_here", "_law_hall_here", "_law_many", "_law_found", "_law_turn"]
abbrev p__law_floors : List Str := ["_law_bag_here", "_law_hall_here", "_law_many"]
theorem sc__law_floors : FnScope n__law_floors p__law_floors (defScope s__law_floors) := C8.fnScope_by (by decide +kernel)
theorem bi__law_floors (kV doc pm : Value) (an : Option Addr) (cdv ct : Value) (us : List Value) (hl : us.length = p__law_floors.length) : bindArgs (PySem.W.fnOf "_law_floors" "_law_floors" (defArgs s__law_floors) (defBody s__law_floors) (defScope s__law_floors) .none kV doc pm an cdv ct) ⟨us, []⟩ = pure (p__law_floors.zip us) := match us, hl with | [_, _, _], _ => rfl
abbrev n__law_alike : List Str := ["_law_found", "_law_due"]
abbrev p__law_alike : List Str := ["_law_found", "_law_due"]
theorem sc__law_alike : FnScope n__law_alike p__law_alike (defScope s__law_alike) := C8.fnScope_by (by decide +kernel)
theorem bi__law_alike (kV doc pm : Value) (an : Option Addr) (cdv ct : Value) (us : List Value) (hl : us.length = p__law_alike.length) : bindArgs (PySem.W.fnOf "_law_alike" "_law_alike" (defArgs s__law_alike) (defBody s__law_alike) (defScope s__law_alike) .none kV doc pm an cdv ct) ⟨us, []⟩ = pure (p__law_alike.zip us) := match us, hl with | [_, _], _ => rfl
abbrev n__law_rows : List Str := ["_law_hall_here", "_law_left", "_law_found", "_law_led", "_law_name", "_law_arc", "_law_end", "_law_growth", "_law_some_here"]
abbrev p__law_rows : List Str := ["_law_hall_here"]
theorem sc__law_rows : FnScope n__law_rows p__law_rows (defScope s__law_rows) := C8.fnScope_by (by decide +kernel)
theorem bi__law_rows (kV doc pm : Value) (an : Option Addr) (cdv ct : Value) (us : List Value) (hl : us.length = p__law_rows.length) : bindArgs (PySem.W.fnOf "_law_rows" "_law_rows" (defArgs s__law_rows) (defBody s__law_rows) (defScope s__law_rows) .none kV doc pm an cdv ct) ⟨us, []⟩ = pure (p__law_rows.zip us) := match us, hl with | [_], _ => rfl
abbrev n__law_machine : List Str := ["_law_hall_here", "_law_name", "_law_machine_here"]
abbrev p__law_machine : List Str := ["_law_hall_here", "_law_name"]
theorem sc__law_machine : FnScope n__law_machine p__law_machine (defScope s__law_machine) := C8.fnScope_by (by decide +kernel)
theorem bi__law_machine (kV doc pm : Value) (an : Option Addr) (cdv ct : Value) (us : List Value) (hl : us.length = p__law_machine.length) : bindArgs (PySem.W.fnOf "_law_machine" "_law_machine" (defArgs s__law_machine) (defBody s__law_machine) (defScope s__law_machine) .none kV doc pm an cdv ct) ⟨us, []⟩ = pure (p__law_machine.zip us) := match us, hl with | [_, _], _ => rfl
abbrev n__law_work : List Str := ["_law_hall_here", "_law_stops_here", "_law_name", "_law_piece", "_law_time", "_law_purses_here", "_law_index"]
abbrev p__law_work : List Str := ["_law_hall_here", "_law_stops_here", "_law_name", "_law_piece"]
theorem sc__law_work : FnScope n__law_work p__law_work (defScope s__law_work) := C8.fnScope_by (by decide +kernel)
theorem bi__law_work (kV doc pm : Value) (an : Option Addr) (cdv ct : Value) (us : List Value) (hl : us.length = p__law_work.length) : bindArgs (PySem.W.fnOf "_law_work" "_law_work" (defArgs s__law_work) (defBody s__law_work) (defScope s__law_work) .none kV doc pm an cdv ct) ⟨us, []⟩ = pure (p__law_work.zip us) := match us, hl with | [_, _, _, _], _ => rfl
abbrev n__law_held_run : List Str := ["_law_hall_here", "_law_stops_here", "_law_floors_here", "_law_cards", "_law_many", "_law_run", "_law_rows_here", "_law_name", "_law_piece", "_law_least", "_law_start", "_law_end", "_law_room", "_law_first_here", "_law_ahead", "_law_after", "_law_number"]
abbrev p__law_held_run : List Str := ["_law_hall_here", "_law_stops_here", "_law_floors_here", "_law_cards", "_law_many"]
theorem sc__law_held_run : FnScope n__law_held_run p__law_held_run (defScope s__law_held_run) := C8.fnScope_by (by decide +kernel)
theorem bi__law_held_run (kV doc pm : Value) (an : Option Addr) (cdv ct : Value) (us : List Value) (hl : us.length = p__law_held_run.length) : bindArgs (PySem.W.fnOf "_law_held_run" "_law_held_run" (defArgs s__law_held_run) (defBody s__law_held_run) (defScope s__law_held_run) .none kV doc pm an cdv ct) ⟨us, []⟩ = pure (p__law_held_run.zip us) := match us, hl with | [_, _, _, _, _], _ => rfl
abbrev n__law_is_int : List Str := ["_law_thing"]
abbrev p__law_is_int : List Str := ["_law_thing"]
theorem sc__law_is_int : FnScope n__law_is_int p__law_is_int (defScope s__law_is_int) := C8.fnScope_by (by decide +kernel)
theorem bi__law_is_int (kV doc pm : Value) (an : Option Addr) (cdv ct : Value) (us : List Value) (hl : us.length = p__law_is_int.length) : bindArgs (PySem.W.fnOf "_law_is_int" "_law_is_int" (defArgs s__law_is_int) (defBody s__law_is_int) (defScope s__law_is_int) .none kV doc pm an cdv ct) ⟨us, []⟩ = pure (p__law_is_int.zip us) := match us, hl with | [_], _ => rfl
abbrev n__law_counts : List Str := ["_law_thing"]
abbrev p__law_counts : List Str := ["_law_thing"]
theorem sc__law_counts : FnScope n__law_counts p__law_counts (defScope s__law_counts) := C8.fnScope_by (by decide +kernel)
theorem bi__law_counts (kV doc pm : Value) (an : Option Addr) (cdv ct : Value) (us : List Value) (hl : us.length = p__law_counts.length) : bindArgs (PySem.W.fnOf "_law_counts" "_law_counts" (defArgs s__law_counts) (defBody s__law_counts) (defScope s__law_counts) .none kV doc pm an cdv ct) ⟨us, []⟩ = pure (p__law_counts.zip us) := match us, hl with | [_], _ => rfl
abbrev n__law_runs_right : List Str := ["_law_hall_here", "_law_stops_here", "_law_run", "_law_many", "_law_name", "_law_piece", "_law_start", "_law_end", "_law_room", "_law_first_here"]
abbrev p__law_runs_right : List Str := ["_law_hall_here", "_law_stops_here", "_law_run", "_law_many"]
theorem sc__law_runs_right : FnScope n__law_runs_right p__law_runs_right (defScope s__law_runs_right) := C8.fnScope_by (by decide +kernel)
theorem bi__law_runs_right (kV doc pm : Value) (an : Option Addr) (cdv ct : Value) (us : List Value) (hl : us.length = p__law_runs_right.length) : bindArgs (PySem.W.fnOf "_law_runs_right" "_law_runs_right" (defArgs s__law_runs_right) (defBody s__law_runs_right) (defScope s__law_runs_right) .none kV doc pm an cdv ct) ⟨us, []⟩ = pure (p__law_runs_right.zip us) := match us, hl with | [_, _, _, _], _ => rfl
abbrev n__law_is_run : List Str := ["_law_hall_here", "_law_stops_here", "_law_thing", "_law_name", "_law_rows_here", "_law_row", "_law_one", "_law_many"]
abbrev p__law_is_run : List Str := ["_law_hall_here", "_law_stops_here", "_law_thing"]
theorem sc__law_is_run : FnScope n__law_is_run p__law_is_run (defScope s__law_is_run) := C8.fnScope_by (by decide +kernel)
theorem bi__law_is_run (kV doc pm : Value) (an : Option Addr) (cdv ct : Value) (us : List Value) (hl : us.length = p__law_is_run.length) : bindArgs (PySem.W.fnOf "_law_is_run" "_law_is_run" (defArgs s__law_is_run) (defBody s__law_is_run) (defScope s__law_is_run) .none kV doc pm an cdv ct) ⟨us, []⟩ = pure (p__law_is_run.zip us) := match us, hl with | [_, _, _], _ => rfl
abbrev n_law : List Str := ["_law_script", "_law_bag_here", "_law_turn", "_law_hall_here", "_law_many", "_law_stops_here", "_law_runs", "_law_floors_here", "_law_shown", "_law_run", "_law_alone", "_law_one", "_law_other", "_law_rows_here", "_law_name", "_law_a", "_law_b", "_law_told"]
abbrev p_law : List Str := ["_law_script"]
theorem sc_law : FnScope n_law p_law (defScope s_law) := C8.fnScope_by (by decide +kernel)
theorem bi_law (kV doc pm : Value) (an : Option Addr) (cdv ct : Value) (us : List Value) (hl : us.length = p_law.length) : bindArgs (PySem.W.fnOf "law" "law" (defArgs s_law) (defBody s_law) (defScope s_law) .none kV doc pm an cdv ct) ⟨us, []⟩ = pure (p_law.zip us) := match us, hl with | [_], _ => rfl
end K41
/-! halls as data; the plain defs of the program -/
namespace K41
open PySem PySem.Spec PyProof.Rows L2
open C8 (Cal pe_c)
/-! ### lists by places -/
theorem rng_flt {α β : Type} (p : α → Bool) (f : α → β) (d : β) : ∀ l : List α, ((List.range l.length).filter fun i => (l[i]?).any p).map (fun i => ((l[i]?).map f).getD d) = (l.filter p).map f
  | [] => rfl
  | a :: l => by
    have ih := rng_flt p f d l
    rw [List.length_cons, List.range_succ_eq_map, List.filter_cons, List.filter_cons]
    have e : (((List.range l.length).map Nat.succ).filter fun i => ((a :: l)[i]?).any p).map (fun i => (((a :: l)[i]?).map f).getD d) = (l.filter p).map f := by
      rw [List.filter_map, List.map_map]
      simpa [Function.comp_def] using ih
    by_cases h : p a = true
    · simp only [List.getElem?_cons_zero, Option.any_some, h, if_true, List.map_cons, Option.map_some, Option.getD_some, e]
    · have h' : p a = false := by simpa using h
      simp only [List.getElem?_cons_zero, Option.any_some, h', Bool.false_eq_true, if_false, e]
/-- a comprehension that only makes new things: over l, p what is kept, f what is made -/
theorem lc_lst {α : Type} (l : List α) {J : It} {Gd : Hp → Prop} {Y : Nat → Hp → V → Hp → Prop} (w : Walk J l.length Gd Y) {g : TG} {tt : TT} {te : TE} {vs : List Nat} {σ : L2.St} {H1 : Hp} {D : Addr} {Qd : Hp → Prop} (hD : H1 D = none)
    (hG : ∀ H, Same H1 H → Gd H) (p : α → Bool) (f : α → PyData) (hn : l.length ≤ 50000)
    (step : ∀ i a x H H', l[i]? = some a → Same H1 H → Y i H x H' → ∀ (N : Hp → Prop) (R : V → Hp → Prop), (∀ H3, Same H H3 → p a = false → N H3) → (∀ y H4, Same H H4 → p a = true → Tv H4 y (f a) → R y H4) →
      g x (wipe σ vs) H' fun σ2 H2 => wipe σ2 vs = wipe σ vs ∧ tt σ2 H2 fun b H3 => if b = true then te σ2 H3 R else N H3)
    (done : ∀ H' ys, Same H1 H' → H' D = some (.lst ys) → TvAll H' ys ((l.filter p).map f) → Qd H') :
    ∃ W : Nat → Nat → Hp → Prop, (∃ m, W 0 m (upd H1 D (.lst []))) ∧ ∀ i m H, W i m H → (J.stop i H ∧ Qd H) ∨ (J.go i H ∧ ∃ Nx : Hp → Prop, (∀ H', Nx H' → ∃ m', m' < m ∧ W (i + 1) m' H') ∧ ∀ x H', J.yld i H x H' → g x (wipe σ vs) H' fun σ2 H2 => wipe σ2 vs = wipe σ vs ∧ tt σ2 H2 fun b H3 =>
      if b = true then te σ2 H3 fun y H4 => ∃ acc, H4 D = some (.lst acc) ∧ acc.length < sizeLine ∧ Nx (upd H4 D (.lst (acc ++ [y]))) else Nx H3) := by
  refine lc_gen w hD S0 (fun _ z => z.elim) (fun _ => True) trivial (fun _ _ _ _ _ => trivial) (fun H s _ => hG H (sx_same s)) (fun H H' _ s => Same.tk (sx_same s)) (fun i => (l[i]?).any p) (fun i y H => Tv H y (((l[i]?).map f).getD .none)) (fun i y H H' k t => t.m k) hn (fun i x H H' hi s _ hy N R n r => ?_) (fun H' ys s _ e t => done H' ys (sx_same s) e ?_)
  · have e : l[i]? = some l[i] := List.getElem?_eq_getElem hi
    refine step i l[i] x H H' e (sx_same s) hy N R (fun H3 s3 k => n H3 (same_sx s3) trivial ?_) (fun y H4 s4 k t => r y H4 (same_sx s4) trivial ?_ ?_)
    · rw [e]; exact k
    · rw [e]; exact k
    · rw [e]; exact t
  · have t' := Paired.tv (f := fun i => ((l[i]?).map f).getD PyData.none) t
    rwa [rng_flt p f PyData.none l] at t'
theorem yesT {σ : L2.St} {H : Hp} {te : TE} {R : V → Hp → Prop} {N : Hp → Prop} (h : te σ H R) : tYes σ H (fun b H3 => if b = true then te σ H3 R else N H3) := by
  show (if true = true then te σ H R else N H)
  rw [if_pos rfl]
  exact h
theorem yesG {σ : L2.St} {H : Hp} {A N : Hp → Prop} (h : A H) : tYes σ H (fun b H3 => if b = true then A H3 else N H3) := by
  show (if true = true then A H else N H)
  rw [if_pos rfl]
  exact h
theorem flt_true {α : Type} (l : List α) : l.filter (fun _ => true) = l := List.filter_eq_self.mpr fun _ _ => rfl
theorem TvAll.at {H : Hp} {α : Type} {f : α → PyData} {l : List α} {vs : List V} {i : Nat} {a : α} (t : TvAll H vs (l.map f)) (e : l[i]? = some a) : ∃ v, vs[i]? = some v ∧ Tv H v (f a) := t.get (by rw [List.getElem?_map, e]; rfl)
theorem TvAll.lenm {H : Hp} {α : Type} {f : α → PyData} {l : List α} {vs : List V} (t : TvAll H vs (l.map f)) : vs.length = l.length := by rw [t.len, List.length_map]
theorem walk_tupL {K : PySem.W.Frag} {a : Addr} {xs : List V} {n : Nat} (h : xs.length = n) : Walk (Itt K a) n (fun H => SqT K H a xs) (YAt xs) := by subst h; exact walk_tup
theorem walk_listL {K : PySem.W.Frag} {a : Addr} {xs : List V} {n : Nat} (h : xs.length = n) : Walk (Itl K a) n (fun H => SqL K H a xs) (YAt xs) := by subst h; exact walk_list
structure Mach where
  nm : Str
  tm : Int
  ps : List (Int × Int)
structure Belt where
  a : Str
  b : Str
  room : Nat
  first : Nat
structure Hall where
  ms : List Mach
  bs : List Belt
  fl : Str
def prD (p : Int × Int) : PyData := .tuple [.int p.1, .int p.2]
def Mach.py (m : Mach) : PyData := .tuple [.str m.nm, .int m.tm, .tuple (m.ps.map prD)]
def Belt.py (b : Belt) : PyData := .tuple [.str b.a, .str b.b, .int (b.room : Int), .int (b.first : Int)]
def Hall.py (h : Hall) : PyData := .tuple [.tuple (h.ms.map Mach.py), .tuple (h.bs.map Belt.py), .str h.fl]
def Hall.names (h : Hall) : List Str := h.ms.map Mach.nm
/-- what a hall is as values -/
theorem Hall.inv {H : Hp} {v : V} {h : Hall} (t : Tv H v h.py) : ∃ a m b ms bs, v = .ref a ∧ H a = some (.tup [.ref m, .ref b, .str h.fl]) ∧ H m = some (.tup ms) ∧ TvAll H ms (h.ms.map Mach.py) ∧ H b = some (.tup bs) ∧ TvAll H bs (h.bs.map Belt.py) := by
  obtain ⟨a, xs, rfl, ha, t⟩ := t.tup_inv
  cases t with
  | cons t1 t =>
    cases t with
    | cons t2 t =>
      cases t with
      | cons t3 t =>
        cases t
        obtain ⟨m, ms, rfl, hm, tm⟩ := t1.tup_inv
        obtain ⟨b, bs, rfl, hb, tb⟩ := t2.tup_inv
        cases t3
        exact ⟨a, m, b, ms, bs, rfl, ha, hm, tm, hb, tb⟩
theorem Mach.inv {H : Hp} {v : V} {m : Mach} (t : Tv H v m.py) : ∃ a p ps, v = .ref a ∧ H a = some (.tup [.str m.nm, .int m.tm, .ref p]) ∧ H p = some (.tup ps) ∧ TvAll H ps (m.ps.map prD) := by
  obtain ⟨a, xs, rfl, ha, t⟩ := t.tup_inv
  cases t with
  | cons t1 t =>
    cases t with
    | cons t2 t =>
      cases t with
      | cons t3 t =>
        cases t
        cases t1
        cases t2
        obtain ⟨p, ps, rfl, hm, tm⟩ := t3.tup_inv
        exact ⟨a, p, ps, rfl, ha, hm, tm⟩
theorem Belt.inv {H : Hp} {v : V} {b : Belt} (t : Tv H v b.py) : ∃ a, v = .ref a ∧ H a = some (.tup [.str b.a, .str b.b, .int (b.room : Int), .int (b.first : Int)]) := by
  obtain ⟨a, xs, rfl, ha, t⟩ := t.tup_inv
  cases t with
  | cons t1 t =>
    cases t with
    | cons t2 t =>
      cases t with
      | cons t3 t =>
        cases t with
        | cons t4 t =>
          cases t
          cases t1
          cases t2
          cases t3
          cases t4
          exact ⟨a, rfl, ha⟩
theorem ixt {X : Cx} {K : PySem.W.Frag} (e : X.K = K) : IxR X (rIxT K) := by subst e; exact ix_tup
theorem ixl {X : Cx} {K : PySem.W.Frag} (e : X.K = K) : IxR X (rIxL K) := by subst e; exact ix_list
section
variable {P : Program} {w : World} {K : PySem.W.Frag} {mg : Str → Option Value} {base : Heap}
def spNames : Sp := fun vs H Q _ => ∃ (v : V) (h : Hall), vs = [v] ∧ Tv H v h.py ∧ h.ms.length ≤ 1000 ∧ ∀ v' H', Same H H' → Tv H' v' (.tuple (h.names.map .str)) → Q v' H'
theorem c_names_of (T : Txt K mg) : Cal P w K mg base 1 "names_of" spNames [] := by
  refine cal_of T.d_names_of sc_names_of (fun vs H Q E h => by obtain ⟨v, h, rfl, _⟩ := h; rfl) bi_names_of (fun f cdv A outer s H vs Q E hr hsp => ?_)
  obtain ⟨v, h, rfl, tv, hl, q⟩ := hsp
  have hu := hu_of hr
  have nd := sc_names_of.nd
  refine ⟨_, pss_one (ps_ret (pe_callTy call_tuple_of (by rfl) T.b_tuple (by decide +kernel) (pa_cons (pe_lc (own := [("machine", 1)]) (g := gName 1) (tt := tYes) rfl nd
    (pi_tup (pe_ix ix_tup (pv 0) pe_int (fun _ _ => rfl))) (blkOk_by (own := [("machine", 1)]) (N := n_names_of) (sc := defScope s_names_of) (by decide +kernel)) (fun _ _ _ _ _ => pg_name (i := 1) nd rfl (Or.inl rfl)) (fun _ _ _ _ _ => pts_nil)
    (fun _ _ _ _ _ => pe_ix (ixt (K := K) rfl) (pv 1) pe_int (fun _ _ => rfl))) pa_nil))), ?_⟩
  obtain ⟨a, m, b, ms, bs, rfl, ha, hm, tm, hb, tb⟩ := Hall.inv tv
  refine ⟨_, rfl, _, _, 0, _, rfl, rfl, SqT.of ha, atI_nat rfl, _, rfl, ⟨_, SqT.of hm⟩, ?_⟩
  refine fun D hD => lc_lst h.ms (walk_tupL (K := K) tm.lenm) hD (fun H s => SqT.of (s _ _ hm)) (fun _ => true) (fun m => .str m.nm) (by omega) (fun i mm x H1 H' hi s hy N R _ r => ?_) (fun H' ys s e t => ?_)
  · obtain ⟨rfl, hx⟩ := hy
    obtain ⟨v, e1, e2⟩ := (tm.m s.tk).at hi
    rw [e1] at hx
    cases hx
    obtain ⟨a1, p1, ps1, rfl, h1, h2, h3⟩ := Mach.inv e2
    exact ⟨rfl, yesT ⟨_, rfl, _, _, 0, _, rfl, rfl, SqT.of h1, atI_nat rfl, r _ _ (Same.refl _) rfl (.str _)⟩⟩
  · rw [flt_true] at t
    refine ⟨_, _, rfl, .inl ⟨SqL.of e, fun l hl => ?_⟩⟩
    have s2 : Same H' (upd H' l (.tup ys)) := Same.new hl
    refine q _ _ (s.trans s2) (.tup upd_same ?_)
    have := t.m s2.tk
    rwa [Hall.names, List.map_map]
end
end K41
/-! rules whose readings name K alone (for blocks) -/
namespace K41
open PySem PySem.Spec PyProof.Rows L2
open C8 (Cal pe_c)
section
variable {X : Cx} {K : PySem.W.Frag}
theorem pgt (e : X.K = K) {pos : Pos} {es : List Expr} {k : Nat} {t : TGs} {n : Nat} (h : PGs X es t) (hc : X.calm = true := by rfl)
    (hn : (assignEach es X.env).length = n := by rfl) (hst : (assignEach es X.env).findIdx? (·.1) = none := by rfl) : PG X (.Tuple es k pos) (gTup K n t) := by
  subst e; exact pg_tup hc h hn hst
theorem pil (e : X.K = K) {tg l : Expr} {tl : TE} (hl : PE X l tl) : PI X tg l (iList K tl) := by subst e; exact pi_list hl
theorem pit (e : X.K = K) {tg l : Expr} {tl : TE} (hl : PE X l tl) : PI X tg l (iTup K tl) := by subst e; exact pi_tup hl
theorem ixq (e : X.K = K) : IxR X (rIx K) := by subst e; exact ix_seq
def rTuple (K : PySem.W.Frag) : List V → Hp → VK → Prop := fun xs H Q => ∃ p ys, xs = [.ref p] ∧ SqL K H p ys ∧ ∀ l, H l = none → Q (.ref l) (upd H l (.tup ys))
theorem cr_tuple (e : X.K = K) : CallR X (.type "tuple") (rTuple K) := by
  subst e
  intro pins s σ H xs us Q I r h
  obtain ⟨p, ys, e, hs, q⟩ := h
  exact call_tuple_of pins s σ H xs us Q I r ⟨p, ys, e, .inl ⟨hs, q⟩⟩
def rLenS (K : PySem.W.Frag) : List V → Hp → VK → Prop := fun xs H Q => ∃ p ys, xs = [.ref p] ∧ (SqL K H p ys ∨ SqT K H p ys) ∧ Q (.int ys.length) H
theorem cr_len (e : X.K = K) : CallR X (.builtin "len") (rLenS K) := by subst e; exact call_len_seq
theorem op_inq (e : X.K = K) : OpR X (compareOp .In) (rIn K false) := by subst e; exact op_in_seq
theorem op_notInq (e : X.K = K) : OpR X (compareOp .NotIn) (rIn K true) := by subst e; exact op_notIn_seq
theorem op_eqLd (e : X.K = K) (hu : X.A.units + 64 < cLine) : OpR X (compareOp .Eq) (rEqD K) := by subst e; exact op_eqD hu
theorem op_neLd (e : X.K = K) (hu : X.A.units + 64 < cLine) : OpR X (compareOp .NotEq) (rNeD K) := by subst e; exact op_neD hu
theorem op_ltDk (e : X.K = K) (hu : X.A.units + 64 < cLine) : OpR X (compareOp .Lt) (rLtD K) := by subst e; exact op_ltD hu
theorem sl_listK (e : X.K = K) : SlR X (rSlL K) := by subst e; exact sl_list
theorem sl_tupK (e : X.K = K) : SlR X (rSlA K) := by subst e; exact sl_tupA
theorem op_catK (e : X.K = K) : OpR X (binaryOp .Add) rCat := op_cat
theorem op_catAK (e : X.K = K) : OpR X (binaryOp .Add) (rCatA K) := by subst e; exact op_catA
theorem cr_allK (e : X.K = K) (hc : X.calm = true := by rfl) : CallR X (.builtin "all") (rAll K) := by subst e; exact cr_all hc
theorem cr_anyK (e : X.K = K) (hc : X.calm = true := by rfl) : CallR X (.builtin "any") (rAny K) := by subst e; exact cr_any hc
theorem cr_sumK (e : X.K = K) (hc : X.calm = true := by rfl) : CallR X (.builtin "sum") (rSum K) := by subst e; exact cr_sum hc
theorem call_isiK (e : X.K = K) : CallR X (.builtin "isinstance") (rIsi K) := by subst e; exact call_isi
theorem pi_enT (e : X.K = K) {ex : Expr} {ta : TA} {p pos tpos : Pos} {elts : List Expr} {kk : Nat} (hg : Gl X "enumerate") (hm : X.mg "enumerate" = none) (ha : PA X [ex] ta) (hs : starEach [ex] X.env = [(false, eval ex X.env)] := by rfl) :
    PI X (.Tuple elts kk tpos) (.Call (.Name "enumerate" p) [ex] [] pos) (iEnumT K ta) := by subst e; exact pi_enumT hg hm ha hs
theorem pi_zT (e : X.K = K) {ex e2 : Expr} {ta : TA} {p pos tpos : Pos} {elts : List Expr} {kk : Nat} (hg : Gl X "zip") (hm : X.mg "zip" = none) (ha : PA X [ex, e2] ta)
    (hs : starEach [ex, e2] X.env = (false, eval ex X.env) :: starEach [e2] X.env := by rfl) (hpl : (backTo pos (starEach [e2] X.env)).any (·.1) = false := by rfl) :
    PI X (.Tuple elts kk tpos) (.Call (.Name "zip" p) [ex, e2] [] pos) (RZ.iZipA K ta) := by subst e; exact RZ.pi_zipA hg hm ha hs hpl
end
theorem hu2_of {A : Around} {k : Nat} (hr : Room k A) : A.units + 2 < cLine := by have := hr.un; omega
theorem hu80_of {A : Around} {k : Nat} (hr : Room k A) : A.units + 80 < cLine := by have := hr.un; omega
/-- a built-in class as a value -/
theorem pe_ty {X : Cx} {x : Str} {n : String} {pos : Pos} (hg : Gl X x) (hm : X.mg x = none) (hv : bootBuiltins x = some (.type n)) (hn : x ≠ "__name__" := by decide) (hd : (x == ("__debug__" : Str)) = false := by decide) : PE X (.Name x pos) (tC (.ty n)) := pe_bltn hg hm hv rfl hn hd
theorem sw_trueD {kx vx : Expr} {gs : List Comprehension} {scope : Scope} {pos py : Pos} {y : Str} {l : Nat} {env : Env} (hk : env.scope.kind = .function) (hy : env.scope.names.lookup y = some .local) (hl : (py.line == pos.line) = true)
    (ha : (scope.names.any fun (n, k) => n == y && (k == .local || k == .cell)) = false) : swapsWith (.DictComp kx vx gs scope pos) (some (.Name y py)) l env = pure true := by
  have k1 : env.kindOf y = some .local := hy
  have k2 : env.blockKind = .function := by
    unfold Env.blockKind
    rw [hk]
    rfl
  unfold swapsWith
  simp only [k2, k1, ha, Expr.pos, hl]
  rfl
/-- y = {.. for ..}, y a local that nothing captures -/
theorem ps_setDc {X : Cx} {i : Nat} {y : Str} {py : Pos} {kx vx tg iter : Expr} {scope : Scope} {own : List (Str × Nat)} {pos spos : Pos} {wi : TI} {g : TG} {tk tv : TE} (hc : X.calm = true) (hN : X.N.Nodup) (hy : X.N[i]? = some y) (hyl : X.env.scope.names.lookup y = some .local)
    (hsw : swapsWith (.DictComp kx vx [⟨tg, iter, [], 0⟩] scope pos) (some (.Name y py)) spos.line X.env = pure true) (hi : PI X tg iter wi) (ok : BlkOk X.N X.env.scope scope own)
    (hg : ∀ (s : Shared) (H : Hp) (C : Addr) (cl : List (Str × Addr)) (fp : List Addr), PG (X.blk s H scope (compEnvC scope cl C X.env) fp) tg g) (ht : ∀ (s : Shared) (H : Hp) (C : Addr) (cl : List (Str × Addr)) (fp : List Addr), PTs (X.blk s H scope (compEnvC scope cl C X.env) fp) [] tYes)
    (hk : ∀ (s : Shared) (H : Hp) (C : Addr) (cl : List (Str × Addr)) (fp : List Addr), PE (X.blk s H scope (compEnvC scope cl C X.env) fp) kx tk)
    (he : ∀ (s : Shared) (H : Hp) (C : Addr) (cl : List (Str × Addr)) (fp : List Addr), PE (X.blk s H scope (compEnvC scope cl C X.env) fp) vx tv) (hs : ∀ x, foldedSetIterable iter X.env x = pure x := by intro _; rfl) :
    PS X (.Assign [.Name y py] (.DictComp kx vx [⟨tg, iter, [], 0⟩] scope pos) spos) (tAsg (tDc wi g tYes tk tv (own.map (·.2))) (gName i)) := by
  refine ⟨fun pins s σ H E I h => ?_⟩
  rw [exec_Assign_Name_used _ _ _ _ hsw]
  refine wpAny_bind (wpAny_standAt (wpAny_bind ?_))
  show wpAny _ X.A (do let _ ← comprehension (.DictComp kx vx [⟨tg, iter, [], 0⟩] scope pos) scope X.env (firstIterPos [⟨tg, iter, [], 0⟩] pos) newDict false (eval iter X.env) (some (assign (.Name y py) X.env))) _ _ s
  have h : tDc wi g tYes tk tv (own.map (·.2)) σ H (fun x H1 => gName i x σ H1 E.nx) := h
  refine wpAny_bind (thn (dc_core (Qf := fun _ s' => SP X pins E .next s') hc hN I hi ok hg ht hk he hs h fun L C s' m H' I' q hn f => ?_) fun _ s' hq => wpAny_pure (wpAny_pure hq))
  show wpAny _ _ (assign (.Name y py) X.env (.ref L)) _ _ _
  refine wpAny_assign_Name (store_ok2 (v := V.ref L) I' hN hy (.inl hyl) rfl (fun s2 I2 ⟨a, sb, ha⟩ => ?_) (.inr hyl))
  obtain ⟨g0, g1, g2, g3, g4, g5⟩ := f
  have far : C ≠ a := ha.elim (fun z => by rw [z]; exact g1) fun z e => g4 y a z e.symm
  exact ⟨m, hn.sameBut sb far, fun h3 sb3 => ⟨_, H', I2.turned (t' := s2.toks) (fun b o hb e => (sb3.2 b hb).trans e) g0 g1 g3 g4 g5, q⟩⟩
end K41
/-! machines, arcs -/
namespace K41
open PySem PySem.Spec PyProof.Rows L2
open C8 (Cal pe_c)
inductive Arc where
  | next (n : Str)
  | down (i : Nat)
  | up (i : Nat)
def Arc.py : Arc → PyData
  | .next n => .tuple [.str "next", .str n]
  | .down i => .tuple [.str "down", .int (i : Int)]
  | .up i => .tuple [.str "up", .int (i : Int)]
def Hall.belt (h : Hall) (i : Nat) : Belt := h.bs.getD i ⟨"", "", 1, 0⟩
def Hall.arcs (h : Hall) : List Arc := h.names.map .next ++ (List.range h.bs.length).flatMap fun i => [.down i, .up i]
def Hall.st (h : Hall) : Arc → Str
  | .next n => n
  | .down i => (h.belt i).a
  | .up i => (h.belt i).b
def Hall.en (h : Hall) : Arc → Str
  | .next n => n
  | .down i => (h.belt i).b
  | .up i => (h.belt i).a
def Hall.gr (h : Hall) : Arc → Nat
  | .next _ => 1
  | .down i => (h.belt i).first
  | .up i => (h.belt i).room - (h.belt i).first
def Arc.ends : Arc → Bool
  | .up _ => false
  | _ => true
/-- the arc is one of the hall's -/
def Hall.has (h : Hall) : Arc → Prop
  | .next _ => True
  | .down i => i < h.bs.length
  | .up i => i < h.bs.length
theorem len_fm : ∀ i : Nat, ((List.range i).flatMap fun i => [Arc.down i, Arc.up i]).length = 2 * i
  | 0 => rfl
  | i + 1 => by
    rw [List.range_succ, List.flatMap_append, List.length_append, len_fm i]
    simp
    omega
theorem Hall.has_of {h : Hall} {a : Arc} (m : a ∈ h.arcs) : h.has a := by
  rcases List.mem_append.mp m with m | m
  · obtain ⟨n, _, rfl⟩ := List.mem_map.mp m
    trivial
  · obtain ⟨i, hi, m⟩ := List.mem_flatMap.mp m
    have hi' := List.mem_range.mp hi
    simp at m
    rcases m with rfl | rfl <;> exact hi'
theorem Hall.belt_get {h : Hall} {i : Nat} (hi : i < h.bs.length) : h.bs[i]? = some (h.belt i) := by
  unfold Hall.belt
  rw [List.getD_eq_getElem?_getD, List.getElem?_eq_getElem hi]
  rfl
theorem Hall.belt_mem {h : Hall} {i : Nat} (hi : i < h.bs.length) : h.belt i ∈ h.bs := List.mem_of_getElem? (Hall.belt_get hi)
/-- what an arc is as values -/
theorem Arc.inv {H : Hp} {v : V} {x : Arc} (t : Tv H v x.py) : ∃ a, v = .ref a ∧ H a = some (.tup (match x with | .next n => [.str "next", .str n] | .down i => [.str "down", .int (i : Int)] | .up i => [.str "up", .int (i : Int)])) := by
  cases x with
  | next n =>
    obtain ⟨a, xs, rfl, ha, t⟩ := Tv.tup_inv t
    cases t with
    | cons t1 t =>
      cases t with
      | cons t2 t =>
        cases t
        cases t1
        cases t2
        exact ⟨a, rfl, ha⟩
  | down i =>
    obtain ⟨a, xs, rfl, ha, t⟩ := Tv.tup_inv t
    cases t with
    | cons t1 t =>
      cases t with
      | cons t2 t =>
        cases t
        cases t1
        cases t2
        exact ⟨a, rfl, ha⟩
  | up i =>
    obtain ⟨a, xs, rfl, ha, t⟩ := Tv.tup_inv t
    cases t with
    | cons t1 t =>
      cases t with
      | cons t2 t =>
        cases t
        cases t1
        cases t2
        exact ⟨a, rfl, ha⟩
theorem dec_str {a b : Str} : decide (V.str a = V.str b) = decide (a = b) := by
  by_cases e : a = b
  · rw [decide_eq_true e, decide_eq_true (by rw [e])]
  · rw [decide_eq_false e, decide_eq_false (fun z => e (V.str.inj z))]
section
variable {P : Program} {w : World} {K : PySem.W.Frag} {mg : Str → Option Value} {base : Heap}
def sp_machine_of : Sp := fun vs H Q _ => ∃ (v : V) (nm : Str) (h : Hall) (m : Mach), vs = [v, .str nm] ∧ Tv H v h.py ∧ h.ms.find? (fun m => m.nm = nm) = some m ∧ ∀ v', Tv H v' m.py → Q v' H
theorem c_machine_of (T : Txt K mg) : Cal P w K mg base 1 "machine_of" sp_machine_of [] := by
  refine cal_of T.d_machine_of sc_machine_of (fun vs H Q E h => by first | (obtain ⟨_, rfl, _⟩ := h; rfl) | (obtain ⟨_, _, rfl, _⟩ := h; rfl) | (obtain ⟨_, _, _, rfl, _⟩ := h; rfl) | (obtain ⟨_, _, _, _, rfl, _⟩ := h; rfl) | (obtain ⟨_, _, _, _, _, rfl, _⟩ := h; rfl) | (obtain ⟨_, _, _, _, _, _, rfl, _⟩ := h; rfl) | (obtain ⟨_, _, _, _, _, _, _, rfl, _⟩ := h; rfl) | (obtain ⟨_, _, _, _, _, _, _, _, rfl, _⟩ := h; rfl) | (obtain ⟨_, _, _, _, _, _, _, _, _, rfl, _⟩ := h; rfl) | (obtain ⟨_, _, _, _, _, _, _, _, _, _, rfl, _⟩ := h; rfl) | (obtain ⟨_, _, _, _, _, _, _, _, _, _, _, rfl, _⟩ := h; rfl) | (obtain ⟨_, _, _, _, _, _, _, _, _, _, _, _, rfl, _⟩ := h; rfl)) bi_machine_of (fun f cdv A outer s H vs Q E hr hsp => ?_)
  have hu := hu_of hr
  have hu64 := hr.units
  have hu2 := hu2_of hr
  have hu80 := hu80_of hr
  have nd := sc_machine_of.nd
  refine ⟨_, (pss_cons (ps_for PassesOwn.never rfl (pit (K := K) rfl (pe_ix (ixt (K := K) rfl) (pv 0) pe_int (fun _ _ => rfl))) (pg_name (i := 2) nd rfl (by first | exact Or.inl rfl | exact Or.inr rfl)) (pss_one (ps_if (pt_cmpR op_eq (pe_ix (ixt (K := K) rfl) (pv 2) pe_int (fun _ _ => rfl)) (pv 1) (nomark _)) (pss_one (ps_ret (pv 2))) pss_nil)))
    (pss_one ps_never)), ?_⟩
  obtain ⟨v, nm, h, mm, rfl, tv, hf, q⟩ := hsp
  obtain ⟨a, m, b, ms, bs, rfl, ha, hm, tm, hb, tb⟩ := Hall.inv tv
  refine ⟨_, rfl, _, _, 0, _, rfl, rfl, SqT.of ha, atI_nat rfl, _, rfl, ⟨_, SqT.of hm⟩, ?_⟩
  refine for_it (walk_tupL (K := K) tm.lenm) (fun i σ H' => H' = H ∧ (∃ o, σ = [some (.ref a), some (.str nm), o]) ∧ ∀ j x, j < i → h.ms[j]? = some x → x.nm ≠ nm) ⟨rfl, ⟨_, rfl⟩, fun j x hj => absurd hj (Nat.not_lt_zero _)⟩ (fun i σ H' _ p => by rw [p.1]; exact SqT.of hm) (fun i x σ H1 H2 hi p hy => ?_) (fun σ H' p => ?_)
  · obtain ⟨rfl, ⟨o, rfl⟩, hn⟩ := p
    obtain ⟨rfl, hx⟩ := hy
    have e : h.ms[i]? = some h.ms[i] := List.getElem?_eq_getElem hi
    obtain ⟨v, e1, e2⟩ := tm.at e
    rw [e1] at hx
    cases hx
    obtain ⟨a1, p1, ps1, rfl, h1, h2, h3⟩ := Mach.inv e2
    refine ⟨_, rfl, _, _, 0, _, rfl, rfl, SqT.of h1, atI_nat rfl, _, rfl, rfl, _, rfl, ?_⟩
    rw [dec_str]
    refine ite2 (fun c => ?_) (fun c => ?_)
    · have c' : h.ms[i].nm = nm := of_decide_eq_true c
      have : mm = h.ms[i] := by
        have h4 := List.find?_eq_some_iff_getElem.mp hf
        obtain ⟨h5, j, hj, e3, h6⟩ := h4
        have h5' : mm.nm = nm := of_decide_eq_true h5
        have : j = i := by
          rcases Nat.lt_trichotomy j i with hlt | heq | hgt
          · exact absurd h5' (hn j mm hlt (by rw [List.getElem?_eq_getElem hj, e3]))
          · exact heq
          · have := h6 i hgt
            simp [c'] at this
        subst this
        exact e3.symm
      subst this
      exact ⟨_, rfl, q _ e2⟩
    · refine ⟨rfl, ⟨_, rfl⟩, fun j x hj ej => ?_⟩
      by_cases e3 : j = i
      · subst e3
        rw [e] at ej
        cases ej
        exact fun z => c (decide_eq_true z)
      · exact hn j x (by omega) ej
  · obtain ⟨rfl, _, hn⟩ := p
    obtain ⟨h5, j, hj, e3, h6⟩ := List.find?_eq_some_iff_getElem.mp hf
    exact hn j mm hj (by rw [List.getElem?_eq_getElem hj, e3]) (of_decide_eq_true h5)
def sp_time_of : Sp := fun vs H Q _ => ∃ (v : V) (nm : Str) (h : Hall) (m : Mach), vs = [v, .str nm] ∧ Tv H v h.py ∧ h.ms.find? (fun m => m.nm = nm) = some m ∧ Q (.int m.tm) H
theorem c_time_of (T : Txt K mg) : Cal P w K mg base 2 "time_of" sp_time_of [] := by
  refine cal_of T.d_time_of sc_time_of (fun vs H Q E h => by first | (obtain ⟨_, rfl, _⟩ := h; rfl) | (obtain ⟨_, _, rfl, _⟩ := h; rfl) | (obtain ⟨_, _, _, rfl, _⟩ := h; rfl) | (obtain ⟨_, _, _, _, rfl, _⟩ := h; rfl) | (obtain ⟨_, _, _, _, _, rfl, _⟩ := h; rfl) | (obtain ⟨_, _, _, _, _, _, rfl, _⟩ := h; rfl) | (obtain ⟨_, _, _, _, _, _, _, rfl, _⟩ := h; rfl) | (obtain ⟨_, _, _, _, _, _, _, _, rfl, _⟩ := h; rfl) | (obtain ⟨_, _, _, _, _, _, _, _, _, rfl, _⟩ := h; rfl) | (obtain ⟨_, _, _, _, _, _, _, _, _, _, rfl, _⟩ := h; rfl) | (obtain ⟨_, _, _, _, _, _, _, _, _, _, _, rfl, _⟩ := h; rfl) | (obtain ⟨_, _, _, _, _, _, _, _, _, _, _, _, rfl, _⟩ := h; rfl)) bi_time_of (fun f cdv A outer s H vs Q E hr hsp => ?_)
  have hu := hu_of hr
  have hu64 := hr.units
  have hu2 := hu2_of hr
  have hu80 := hu80_of hr
  have nd := sc_time_of.nd
  refine ⟨_, (pss_one (ps_ret (pe_ix (ixt (K := K) rfl) (pe_c (c_machine_of T) hr (by decide) rfl (pa_cons (pv 0) (pa_cons (pv 1) pa_nil))) pe_int (fun _ _ => rfl)))), ?_⟩
  obtain ⟨v, nm, h, mm, rfl, tv, hf, q⟩ := hsp
  refine ⟨_, rfl, _, rfl, _, _, h, mm, rfl, tv, hf, fun v' t => ?_⟩
  obtain ⟨a1, p1, ps1, rfl, h1, h2, h3⟩ := Mach.inv t
  exact ⟨_, _, 1, _, rfl, rfl, SqT.of h1, atI_nat rfl, q⟩
def sp_purses_of : Sp := fun vs H Q _ => ∃ (v : V) (nm : Str) (h : Hall) (m : Mach), vs = [v, .str nm] ∧ Tv H v h.py ∧ h.ms.find? (fun m => m.nm = nm) = some m ∧ ∀ v', Tv H v' (.tuple (m.ps.map prD)) → Q v' H
theorem c_purses_of (T : Txt K mg) : Cal P w K mg base 2 "purses_of" sp_purses_of [] := by
  refine cal_of T.d_purses_of sc_purses_of (fun vs H Q E h => by first | (obtain ⟨_, rfl, _⟩ := h; rfl) | (obtain ⟨_, _, rfl, _⟩ := h; rfl) | (obtain ⟨_, _, _, rfl, _⟩ := h; rfl) | (obtain ⟨_, _, _, _, rfl, _⟩ := h; rfl) | (obtain ⟨_, _, _, _, _, rfl, _⟩ := h; rfl) | (obtain ⟨_, _, _, _, _, _, rfl, _⟩ := h; rfl) | (obtain ⟨_, _, _, _, _, _, _, rfl, _⟩ := h; rfl) | (obtain ⟨_, _, _, _, _, _, _, _, rfl, _⟩ := h; rfl) | (obtain ⟨_, _, _, _, _, _, _, _, _, rfl, _⟩ := h; rfl) | (obtain ⟨_, _, _, _, _, _, _, _, _, _, rfl, _⟩ := h; rfl) | (obtain ⟨_, _, _, _, _, _, _, _, _, _, _, rfl, _⟩ := h; rfl) | (obtain ⟨_, _, _, _, _, _, _, _, _, _, _, _, rfl, _⟩ := h; rfl)) bi_purses_of (fun f cdv A outer s H vs Q E hr hsp => ?_)
  have hu := hu_of hr
  have hu64 := hr.units
  have hu2 := hu2_of hr
  have hu80 := hu80_of hr
  have nd := sc_purses_of.nd
  refine ⟨_, (pss_one (ps_ret (pe_ix (ixt (K := K) rfl) (pe_c (c_machine_of T) hr (by decide) rfl (pa_cons (pv 0) (pa_cons (pv 1) pa_nil))) pe_int (fun _ _ => rfl)))), ?_⟩
  obtain ⟨v, nm, h, mm, rfl, tv, hf, q⟩ := hsp
  refine ⟨_, rfl, _, rfl, _, _, h, mm, rfl, tv, hf, fun v' t => ?_⟩
  obtain ⟨a1, p1, ps1, rfl, h1, h2, h3⟩ := Mach.inv t
  exact ⟨_, _, 2, _, rfl, rfl, SqT.of h1, atI_nat rfl, q _ (.tup h2 h3)⟩
def sp_does_end : Sp := fun vs H Q _ => ∃ (v : V) (x : Arc), vs = [v] ∧ Tv H v x.py ∧ Q (.bl x.ends) H
theorem c_does_end (T : Txt K mg) : Cal P w K mg base 1 "does_end" sp_does_end [] := by
  refine cal_of T.d_does_end sc_does_end (fun vs H Q E h => by first | (obtain ⟨_, rfl, _⟩ := h; rfl) | (obtain ⟨_, _, rfl, _⟩ := h; rfl) | (obtain ⟨_, _, _, rfl, _⟩ := h; rfl) | (obtain ⟨_, _, _, _, rfl, _⟩ := h; rfl) | (obtain ⟨_, _, _, _, _, rfl, _⟩ := h; rfl) | (obtain ⟨_, _, _, _, _, _, rfl, _⟩ := h; rfl) | (obtain ⟨_, _, _, _, _, _, _, rfl, _⟩ := h; rfl) | (obtain ⟨_, _, _, _, _, _, _, _, rfl, _⟩ := h; rfl) | (obtain ⟨_, _, _, _, _, _, _, _, _, rfl, _⟩ := h; rfl) | (obtain ⟨_, _, _, _, _, _, _, _, _, _, rfl, _⟩ := h; rfl) | (obtain ⟨_, _, _, _, _, _, _, _, _, _, _, rfl, _⟩ := h; rfl) | (obtain ⟨_, _, _, _, _, _, _, _, _, _, _, _, rfl, _⟩ := h; rfl)) bi_does_end (fun f cdv A outer s H vs Q E hr hsp => ?_)
  have hu := hu_of hr
  have hu64 := hr.units
  have hu2 := hu2_of hr
  have hu80 := hu80_of hr
  have nd := sc_does_end.nd
  refine ⟨_, (pss_one (ps_ret (pe_cmpR op_ne (pe_ix (ixt (K := K) rfl) (pv 0) pe_int (fun _ _ => rfl)) pe_str (nomark _)))), ?_⟩
  obtain ⟨v, x, rfl, tv, q⟩ := hsp
  obtain ⟨a, rfl, ha⟩ := Arc.inv tv
  cases x with
  | next n => exact ⟨_, rfl, _, _, 0, _, rfl, rfl, SqT.of ha, atI_nat rfl, rfl, q⟩
  | down n => exact ⟨_, rfl, _, _, 0, _, rfl, rfl, SqT.of ha, atI_nat rfl, rfl, q⟩
  | up n => exact ⟨_, rfl, _, _, 0, _, rfl, rfl, SqT.of ha, atI_nat rfl, rfl, q⟩
def sp_start_of : Sp := fun vs H Q _ => ∃ (v u : V) (h : Hall) (x : Arc), vs = [v, u] ∧ Tv H v h.py ∧ Tv H u x.py ∧ h.has x ∧ Q (.str (h.st x)) H
theorem c_start_of (T : Txt K mg) : Cal P w K mg base 1 "start_of" sp_start_of [] := by
  refine cal_of T.d_start_of sc_start_of (fun vs H Q E h => by first | (obtain ⟨_, rfl, _⟩ := h; rfl) | (obtain ⟨_, _, rfl, _⟩ := h; rfl) | (obtain ⟨_, _, _, rfl, _⟩ := h; rfl) | (obtain ⟨_, _, _, _, rfl, _⟩ := h; rfl) | (obtain ⟨_, _, _, _, _, rfl, _⟩ := h; rfl) | (obtain ⟨_, _, _, _, _, _, rfl, _⟩ := h; rfl) | (obtain ⟨_, _, _, _, _, _, _, rfl, _⟩ := h; rfl) | (obtain ⟨_, _, _, _, _, _, _, _, rfl, _⟩ := h; rfl) | (obtain ⟨_, _, _, _, _, _, _, _, _, rfl, _⟩ := h; rfl) | (obtain ⟨_, _, _, _, _, _, _, _, _, _, rfl, _⟩ := h; rfl) | (obtain ⟨_, _, _, _, _, _, _, _, _, _, _, rfl, _⟩ := h; rfl) | (obtain ⟨_, _, _, _, _, _, _, _, _, _, _, _, rfl, _⟩ := h; rfl)) bi_start_of (fun f cdv A outer s H vs Q E hr hsp => ?_)
  have hu := hu_of hr
  have hu64 := hr.units
  have hu2 := hu2_of hr
  have hu80 := hu80_of hr
  have nd := sc_start_of.nd
  refine ⟨_, (pss_cons (ps_asg (pv 1) (pgt (K := K) rfl (pgs_cons (pg_name (i := 2) nd rfl (by first | exact Or.inl rfl | exact Or.inr rfl)) (pgs_cons (pg_name (i := 3) nd rfl (by first | exact Or.inl rfl | exact Or.inr rfl)) pgs_nil))))
    (pss_cons (ps_if (pt_cmpR op_eq (pv 2) pe_str (nomark _)) (pss_one (ps_ret (pv 3))) pss_nil)
    (pss_one (ps_ret (pe_ix (ixt (K := K) rfl) (pe_ix (ixt (K := K) rfl) (pe_ix (ixt (K := K) rfl) (pv 0) pe_int (fun _ _ => rfl)) (pv 3) (fun _ _ => rfl)) (pe_ifExp (pt_cmpR op_eq (pv 2) pe_str (nomark _)) pe_int pe_int) (fun _ _ => rfl)))))), ?_⟩
  obtain ⟨v, u, h, x, rfl, tv, tx, hx, q⟩ := hsp
  obtain ⟨a, m, b, ms, bs, rfl, ha, hm, tm, hb, tb⟩ := Hall.inv tv
  obtain ⟨xa, rfl, hxa⟩ := Arc.inv tx
  cases x with
  | next n => exact ⟨_, rfl, _, _, rfl, SqT.of hxa, rfl, _, _, rfl, _, _, rfl, rfl, _, rfl, rfl, _, rfl, iteT ⟨_, rfl, q⟩⟩
  | down i =>
    obtain ⟨bv, e1, e2⟩ := tb.at (Hall.belt_get hx)
    obtain ⟨ba, rfl, hba⟩ := Belt.inv e2
    exact ⟨_, rfl, _, _, rfl, SqT.of hxa, rfl, _, _, rfl, _, _, rfl, rfl, _, rfl, rfl, _, rfl, iteF ⟨_, rfl, _, _, 1, _, rfl, rfl, SqT.of ha, atI_nat rfl, _, rfl, _, _, _, _, rfl, rfl, SqT.of hb, atI_nat e1, _, rfl, rfl, _, rfl, iteT ⟨_, _, 0, _, rfl, rfl, SqT.of hba, atI_nat rfl, q⟩⟩⟩
  | up i =>
    obtain ⟨bv, e1, e2⟩ := tb.at (Hall.belt_get hx)
    obtain ⟨ba, rfl, hba⟩ := Belt.inv e2
    exact ⟨_, rfl, _, _, rfl, SqT.of hxa, rfl, _, _, rfl, _, _, rfl, rfl, _, rfl, rfl, _, rfl, iteF ⟨_, rfl, _, _, 1, _, rfl, rfl, SqT.of ha, atI_nat rfl, _, rfl, _, _, _, _, rfl, rfl, SqT.of hb, atI_nat e1, _, rfl, rfl, _, rfl, iteF ⟨_, _, 1, _, rfl, rfl, SqT.of hba, atI_nat rfl, q⟩⟩⟩
def sp_end_of : Sp := fun vs H Q _ => ∃ (v u : V) (h : Hall) (x : Arc), vs = [v, u] ∧ Tv H v h.py ∧ Tv H u x.py ∧ h.has x ∧ Q (.str (h.en x)) H
theorem c_end_of (T : Txt K mg) : Cal P w K mg base 1 "end_of" sp_end_of [] := by
  refine cal_of T.d_end_of sc_end_of (fun vs H Q E h => by first | (obtain ⟨_, rfl, _⟩ := h; rfl) | (obtain ⟨_, _, rfl, _⟩ := h; rfl) | (obtain ⟨_, _, _, rfl, _⟩ := h; rfl) | (obtain ⟨_, _, _, _, rfl, _⟩ := h; rfl) | (obtain ⟨_, _, _, _, _, rfl, _⟩ := h; rfl) | (obtain ⟨_, _, _, _, _, _, rfl, _⟩ := h; rfl) | (obtain ⟨_, _, _, _, _, _, _, rfl, _⟩ := h; rfl) | (obtain ⟨_, _, _, _, _, _, _, _, rfl, _⟩ := h; rfl) | (obtain ⟨_, _, _, _, _, _, _, _, _, rfl, _⟩ := h; rfl) | (obtain ⟨_, _, _, _, _, _, _, _, _, _, rfl, _⟩ := h; rfl) | (obtain ⟨_, _, _, _, _, _, _, _, _, _, _, rfl, _⟩ := h; rfl) | (obtain ⟨_, _, _, _, _, _, _, _, _, _, _, _, rfl, _⟩ := h; rfl)) bi_end_of (fun f cdv A outer s H vs Q E hr hsp => ?_)
  have hu := hu_of hr
  have hu64 := hr.units
  have hu2 := hu2_of hr
  have hu80 := hu80_of hr
  have nd := sc_end_of.nd
  refine ⟨_, (pss_cons (ps_asg (pv 1) (pgt (K := K) rfl (pgs_cons (pg_name (i := 2) nd rfl (by first | exact Or.inl rfl | exact Or.inr rfl)) (pgs_cons (pg_name (i := 3) nd rfl (by first | exact Or.inl rfl | exact Or.inr rfl)) pgs_nil))))
    (pss_cons (ps_if (pt_cmpR op_eq (pv 2) pe_str (nomark _)) (pss_one (ps_ret (pv 3))) pss_nil)
    (pss_one (ps_ret (pe_ix (ixt (K := K) rfl) (pe_ix (ixt (K := K) rfl) (pe_ix (ixt (K := K) rfl) (pv 0) pe_int (fun _ _ => rfl)) (pv 3) (fun _ _ => rfl)) (pe_ifExp (pt_cmpR op_eq (pv 2) pe_str (nomark _)) pe_int pe_int) (fun _ _ => rfl)))))), ?_⟩
  obtain ⟨v, u, h, x, rfl, tv, tx, hx, q⟩ := hsp
  obtain ⟨a, m, b, ms, bs, rfl, ha, hm, tm, hb, tb⟩ := Hall.inv tv
  obtain ⟨xa, rfl, hxa⟩ := Arc.inv tx
  cases x with
  | next n => exact ⟨_, rfl, _, _, rfl, SqT.of hxa, rfl, _, _, rfl, _, _, rfl, rfl, _, rfl, rfl, _, rfl, iteT ⟨_, rfl, q⟩⟩
  | down i =>
    obtain ⟨bv, e1, e2⟩ := tb.at (Hall.belt_get hx)
    obtain ⟨ba, rfl, hba⟩ := Belt.inv e2
    exact ⟨_, rfl, _, _, rfl, SqT.of hxa, rfl, _, _, rfl, _, _, rfl, rfl, _, rfl, rfl, _, rfl, iteF ⟨_, rfl, _, _, 1, _, rfl, rfl, SqT.of ha, atI_nat rfl, _, rfl, _, _, _, _, rfl, rfl, SqT.of hb, atI_nat e1, _, rfl, rfl, _, rfl, iteT ⟨_, _, 1, _, rfl, rfl, SqT.of hba, atI_nat rfl, q⟩⟩⟩
  | up i =>
    obtain ⟨bv, e1, e2⟩ := tb.at (Hall.belt_get hx)
    obtain ⟨ba, rfl, hba⟩ := Belt.inv e2
    exact ⟨_, rfl, _, _, rfl, SqT.of hxa, rfl, _, _, rfl, _, _, rfl, rfl, _, rfl, rfl, _, rfl, iteF ⟨_, rfl, _, _, 1, _, rfl, rfl, SqT.of ha, atI_nat rfl, _, rfl, _, _, _, _, rfl, rfl, SqT.of hb, atI_nat e1, _, rfl, rfl, _, rfl, iteF ⟨_, _, 0, _, rfl, rfl, SqT.of hba, atI_nat rfl, q⟩⟩⟩
def sp_growth_of : Sp := fun vs H Q _ => ∃ (v u : V) (h : Hall) (x : Arc), vs = [v, u] ∧ Tv H v h.py ∧ Tv H u x.py ∧ h.has x ∧ (∀ b ∈ h.bs, b.first ≤ b.room) ∧ Q (.int (h.gr x : Int)) H
theorem c_growth_of (T : Txt K mg) : Cal P w K mg base 1 "growth_of" sp_growth_of [] := by
  refine cal_of T.d_growth_of sc_growth_of (fun vs H Q E h => by first | (obtain ⟨_, rfl, _⟩ := h; rfl) | (obtain ⟨_, _, rfl, _⟩ := h; rfl) | (obtain ⟨_, _, _, rfl, _⟩ := h; rfl) | (obtain ⟨_, _, _, _, rfl, _⟩ := h; rfl) | (obtain ⟨_, _, _, _, _, rfl, _⟩ := h; rfl) | (obtain ⟨_, _, _, _, _, _, rfl, _⟩ := h; rfl) | (obtain ⟨_, _, _, _, _, _, _, rfl, _⟩ := h; rfl) | (obtain ⟨_, _, _, _, _, _, _, _, rfl, _⟩ := h; rfl) | (obtain ⟨_, _, _, _, _, _, _, _, _, rfl, _⟩ := h; rfl) | (obtain ⟨_, _, _, _, _, _, _, _, _, _, rfl, _⟩ := h; rfl) | (obtain ⟨_, _, _, _, _, _, _, _, _, _, _, rfl, _⟩ := h; rfl) | (obtain ⟨_, _, _, _, _, _, _, _, _, _, _, _, rfl, _⟩ := h; rfl)) bi_growth_of (fun f cdv A outer s H vs Q E hr hsp => ?_)
  have hu := hu_of hr
  have hu64 := hr.units
  have hu2 := hu2_of hr
  have hu80 := hu80_of hr
  have nd := sc_growth_of.nd
  refine ⟨_, (pss_cons (ps_asg (pv 1) (pgt (K := K) rfl (pgs_cons (pg_name (i := 2) nd rfl (by first | exact Or.inl rfl | exact Or.inr rfl)) (pgs_cons (pg_name (i := 3) nd rfl (by first | exact Or.inl rfl | exact Or.inr rfl)) pgs_nil))))
    (pss_cons (ps_if (pt_cmpR op_eq (pv 2) pe_str (nomark _)) (pss_one (ps_ret pe_int)) pss_nil)
    (pss_cons (ps_asg (pe_ix (ixt (K := K) rfl) (pe_ix (ixt (K := K) rfl) (pv 0) pe_int (fun _ _ => rfl)) (pv 3) (fun _ _ => rfl)) (pgt (K := K) rfl (pgs_cons (pg_name (i := 4) nd rfl (by first | exact Or.inl rfl | exact Or.inr rfl)) (pgs_cons (pg_name (i := 5) nd rfl (by first | exact Or.inl rfl | exact Or.inr rfl)) (pgs_cons (pg_name (i := 6) nd rfl (by first | exact Or.inl rfl | exact Or.inr rfl)) (pgs_cons (pg_name (i := 7) nd rfl (by first | exact Or.inl rfl | exact Or.inr rfl)) pgs_nil))))))
    (pss_one (ps_ret (pe_ifExp (pt_cmpR op_eq (pv 2) pe_str (nomark _)) (pv 7) (pe_op op_sub (pv 6) (pv 7)))))))), ?_⟩
  obtain ⟨v, u, h, x, rfl, tv, tx, hx, hfr, q⟩ := hsp
  obtain ⟨a, m, b, ms, bs, rfl, ha, hm, tm, hb, tb⟩ := Hall.inv tv
  obtain ⟨xa, rfl, hxa⟩ := Arc.inv tx
  cases x with
  | next n => exact ⟨_, rfl, _, _, rfl, SqT.of hxa, rfl, _, _, rfl, _, _, rfl, rfl, _, rfl, rfl, _, rfl, iteT q⟩
  | down i =>
    obtain ⟨bv, e1, e2⟩ := tb.at (Hall.belt_get hx)
    obtain ⟨ba, rfl, hba⟩ := Belt.inv e2
    exact ⟨_, rfl, _, _, rfl, SqT.of hxa, rfl, _, _, rfl, _, _, rfl, rfl, _, rfl, rfl, _, rfl, iteF ⟨_, rfl, _, _, 1, _, rfl, rfl, SqT.of ha, atI_nat rfl, _, rfl, _, _, _, _, rfl, rfl, SqT.of hb, atI_nat e1, _, _, rfl, SqT.of hba, rfl,
      _, _, rfl, _, _, rfl, _, _, rfl, _, _, rfl, rfl, _, rfl, rfl, _, rfl, iteT ⟨_, rfl, q⟩⟩⟩
  | up i =>
    obtain ⟨bv, e1, e2⟩ := tb.at (Hall.belt_get hx)
    obtain ⟨ba, rfl, hba⟩ := Belt.inv e2
    refine ⟨_, rfl, _, _, rfl, SqT.of hxa, rfl, _, _, rfl, _, _, rfl, rfl, _, rfl, rfl, _, rfl, iteF ⟨_, rfl, _, _, 1, _, rfl, rfl, SqT.of ha, atI_nat rfl, _, rfl, _, _, _, _, rfl, rfl, SqT.of hb, atI_nat e1, _, _, rfl, SqT.of hba, rfl,
      _, _, rfl, _, _, rfl, _, _, rfl, _, _, rfl, rfl, _, rfl, rfl, _, rfl, iteF ⟨_, rfl, _, rfl, _, _, rfl, rfl, ?_⟩⟩⟩
    have := hfr _ (Hall.belt_mem hx)
    have e : ((h.belt i).room : Int) - ((h.belt i).first : Int) = (h.gr (.up i) : Int) := by
      show _ = (((h.belt i).room - (h.belt i).first : Nat) : Int)
      omega
    rw [← e] at q
    exact q
def sp_arcs_of : Sp := fun vs H Q _ => ∃ (v : V) (h : Hall), vs = [v] ∧ Tv H v h.py ∧ h.ms.length ≤ 1000 ∧ h.bs.length ≤ 1000 ∧ ∀ v' H', Same H H' → Tv H' v' (.tuple (h.arcs.map Arc.py)) → Q v' H'
theorem c_arcs_of (T : Txt K mg) : Cal P w K mg base 2 "arcs_of" sp_arcs_of [] := by
  refine cal_of T.d_arcs_of sc_arcs_of (fun vs H Q E h => by first | (obtain ⟨_, rfl, _⟩ := h; rfl) | (obtain ⟨_, _, rfl, _⟩ := h; rfl) | (obtain ⟨_, _, _, rfl, _⟩ := h; rfl) | (obtain ⟨_, _, _, _, rfl, _⟩ := h; rfl) | (obtain ⟨_, _, _, _, _, rfl, _⟩ := h; rfl) | (obtain ⟨_, _, _, _, _, _, rfl, _⟩ := h; rfl) | (obtain ⟨_, _, _, _, _, _, _, rfl, _⟩ := h; rfl) | (obtain ⟨_, _, _, _, _, _, _, _, rfl, _⟩ := h; rfl) | (obtain ⟨_, _, _, _, _, _, _, _, _, rfl, _⟩ := h; rfl) | (obtain ⟨_, _, _, _, _, _, _, _, _, _, rfl, _⟩ := h; rfl) | (obtain ⟨_, _, _, _, _, _, _, _, _, _, _, rfl, _⟩ := h; rfl) | (obtain ⟨_, _, _, _, _, _, _, _, _, _, _, _, rfl, _⟩ := h; rfl)) bi_arcs_of (fun f cdv A outer s H vs Q E hr hsp => ?_)
  have hu := hu_of hr
  have hu64 := hr.units
  have hu2 := hu2_of hr
  have hu80 := hu80_of hr
  have nd := sc_arcs_of.nd
  refine ⟨_, (pss_cons (ps_setLc (i := 1) (own := [("name", 2)]) rfl nd rfl rfl (sw_true rfl rfl rfl (by decide +kernel)) (pit (K := K) rfl (pe_c (c_names_of T) hr (by decide) rfl (pa_cons (pv 0) pa_nil))) (blkOk_by (own := [("name", 2)]) (N := n_arcs_of) (sc := defScope s_arcs_of) (by decide +kernel)) (fun _ _ _ _ _ => (pg_name (i := 2) nd rfl (by first | exact Or.inl rfl | exact Or.inr rfl))) (fun _ _ _ _ _ => pts_nil) (fun _ _ _ _ _ => (pe_tup (pa_cons pe_str (pa_cons (pv 2) pa_nil)))))
    (pss_cons (ps_for PassesOwn.never rfl (pi_range1 (by rfl) T.b_range (pa_cons (pe_callB (cr_len (K := K) rfl) (by rfl) T.b_len (by decide +kernel) (pa_cons (pe_ix (ixt (K := K) rfl) (pv 0) pe_int (fun _ _ => rfl)) pa_nil)) pa_nil)) (pg_name (i := 3) nd rfl (by first | exact Or.inl rfl | exact Or.inr rfl)) (pss_one (ps_expr (pe_bm PySem.F.plainAttrs_list PySem.F.slot_list_extend PySem.F.type_list_extend mt_extend (pv 1) (pa_cons (pe_lst (pa_cons (pe_tup (pa_cons pe_str (pa_cons (pv 3) pa_nil))) (pa_cons (pe_tup (pa_cons pe_str (pa_cons (pv 3) pa_nil))) pa_nil))) pa_nil)))))
    (pss_one (ps_ret (pe_callTy (cr_tuple (K := K) rfl) (by rfl) T.b_tuple (by decide +kernel) (pa_cons (pv 1) pa_nil)))))), ?_⟩
  obtain ⟨v, h, rfl, tv, hl, hlb, q⟩ := hsp
  refine ⟨_, rfl, _, h, rfl, tv, hl, fun v1 H1 s1 t1 => ?_⟩
  obtain ⟨a1, xs1, rfl, h1, tx⟩ := t1.tup_inv
  refine ⟨_, rfl, ⟨_, SqT.of h1⟩, fun D hD => ?_⟩
  have hnl : h.names.length = h.ms.length := by rw [Hall.names, List.length_map]
  refine lc_lst h.names (walk_tupL (K := K) tx.lenm) hD (fun H s => SqT.of (s _ _ h1)) (fun _ => true) (fun n => (Arc.next n).py) (by omega) (fun i n x H2 H' hi s hy N R _ r => ?_) (fun H2 ys s2 e2 t2 => ?_)
  · obtain ⟨rfl, hx⟩ := hy
    obtain ⟨v, e1, e2⟩ := (tx.m s.tk).at hi
    rw [e1] at hx
    cases hx
    cases e2
    refine ⟨rfl, yesT ⟨_, rfl, by show 2 ≤ sizeLine; decide, fun p hp => r _ _ (Same.new hp) rfl ?_⟩⟩
    exact .tup upd_same (.cons (.str _) (.cons (.str _) .nil))
  · rw [flt_true] at t2
    have sA := s1.trans s2
    have tv2 := tv.m sA.tk
    obtain ⟨a, m, b, ms, bs, ea, ha, hm, tm, hb, tb⟩ := Hall.inv tv2
    cases ea
    refine ⟨_, rfl, _, _, 1, _, rfl, rfl, SqT.of ha, atI_nat rfl, _, bs, rfl, .inr (SqT.of hb), _, rfl, by have := tb.lenm; omega, by have := tb.lenm; omega, ?_⟩
    have hDH : H D = none := s1.free hD
    have lb := tb.lenm
    refine for_it (walk_range (lo := 0) (n := bs.length)) (fun i σ H' => (∃ o2 o3, σ = [some (.ref a), some (.ref D), o2, o3]) ∧ Same H H' ∧ ∃ ys, H' D = some (.lst ys) ∧ TvAll H' ys ((h.names.map Arc.next ++ (List.range i).flatMap fun i => [Arc.down i, Arc.up i]).map Arc.py))
      ⟨⟨_, _, rfl⟩, sA, ys, e2, by simpa [Function.comp_def] using t2⟩ (fun _ _ _ _ _ => trivial) (fun i x σ H3 H4 hi p hy => ?_) (fun σ H3 p => ?_)
    · obtain ⟨⟨o2, o3, rfl⟩, s3, zs, e3, t3⟩ := p
      obtain ⟨rfl, rfl⟩ := hy
      have e0 : V.int (0 + (i : Int)) = V.int (i : Int) := by rw [Int.zero_add]
      have lz := t3.len
      have lfm := len_fm i
      refine ⟨_, rfl, .inl ⟨rfl, _, SqL.of e3⟩, _, rfl, by show 2 ≤ sizeLine; decide, fun p1 hp1 => ?_⟩
      refine ⟨_, rfl, by show 2 ≤ sizeLine; decide, fun p2 hp2 => ?_⟩
      refine ⟨by show 2 ≤ sizeLine; decide, fun p3 hp3 => ?_⟩
      have k1 : Same H4 (upd H4 p1 _) := Same.new hp1 (o := .tup [.str "down", .int (0 + (i : Int))])
      have k2 : Same _ (upd _ p2 _) := Same.new hp2 (o := .tup [.str "up", .int (0 + (i : Int))])
      have k3 : Same _ (upd _ p3 _) := Same.new hp3 (o := .lst [.ref p1, .ref p2])
      have k := (k1.trans k2).trans k3
      have eD := k _ _ e3
      refine ⟨D, p3, zs, [.ref p1, .ref p2], rfl, rfl, eD, upd_same, ?_, ⟨_, _, rfl⟩, (s3.trans k).mut hDH, _, upd_same, ?_⟩
      · rw [List.length_map, List.length_append, List.length_map, lfm] at lz
        have : sizeLine = 2 ^ 24 := rfl
        simp only [List.length_cons, List.length_nil]
        omega
      · have tk : TK H4 _ := k.tk.trans (TK.lst (o := .lst (zs ++ [.ref p1, .ref p2])) eD)
        rw [List.range_succ, List.flatMap_append, ← List.append_assoc, List.map_append]
        refine (t3.m tk).append ?_
        have a1 := k2 _ _ (upd_same (H := H4) (a := p1) (o := .tup [.str "down", .int (0 + (i : Int))]))
        have a1 := TK.lst (o := .lst (zs ++ [.ref p1, .ref p2])) eD _ _ (k3 _ _ a1)
        have a2 := TK.lst (o := .lst (zs ++ [.ref p1, .ref p2])) eD _ _ (k3 _ _ (upd_same (H := upd H4 p1 (.tup [.str "down", .int (0 + (i : Int))])) (a := p2) (o := .tup [.str "up", .int (0 + (i : Int))])))
        dsimp only at a1 a2 ⊢
        rw [e0] at a1 a2
        rw [e0]
        exact .cons (.tup a1 (.cons (.str _) (.cons (.int _) .nil))) (.cons (.tup a2 (.cons (.str _) (.cons (.int _) .nil))) .nil)
    · obtain ⟨⟨o2, o3, rfl⟩, s3, zs, e3, t3⟩ := p
      refine ⟨_, rfl, _, _, rfl, SqL.of e3, fun l hl2 => ?_⟩
      have k : Same H3 (upd H3 l (.tup zs)) := Same.new hl2
      rw [lb] at t3
      exact q _ _ (s3.trans k) (.tup upd_same (t3.m k.tk))
end
end K41
/-! still arcs, no dead ring, heights -/
namespace K41
open PySem PySem.Spec PyProof.Rows L2
open C8 (Cal pe_c)
/-- what ranks the names: a still arc leads upwards, one step at least into each raised name -/
structure Ranked (h : Hall) (r : Str → Nat) : Prop where
  le : ∀ n, r n ≤ 3
  lt : ∀ n ∈ h.names, r n < h.ms.length
  up : ∀ x ∈ h.arcs, h.gr x = 0 → r (h.st x) < r (h.en x)
  pre : ∀ n ∈ h.names, 0 < r n → ∃ x ∈ h.arcs, h.gr x = 0 ∧ h.en x = n ∧ r (h.st x) + 1 = r n
structure Hall.Ok (h : Hall) : Prop where
  n1 : 1 ≤ h.ms.length
  n4 : h.ms.length ≤ 4
  b5 : h.bs.length ≤ 5
  nd : h.names.Nodup
  srt : PyProof.Rows.sortedS h.names = true
  ends : ∀ b ∈ h.bs, b.a ∈ h.names ∧ b.b ∈ h.names
  room : ∀ b ∈ h.bs, b.first ≤ b.room ∧ b.room ≤ 100
  small : ∀ m ∈ h.ms, (m.tm.natAbs ≤ 1000 ∧ 0 ≤ m.tm) ∧ m.ps.length ≤ 3 ∧ ∀ p ∈ m.ps, p.1.natAbs ≤ 1000 ∧ 0 ≤ p.1 ∧ p.2.natAbs ≤ 1000 ∧ 0 ≤ p.2
  str : ∀ n ∈ h.names, PyData.strOk n = true ∧ (reprText n).length ≤ 60
  fl : PyData.strOk h.fl = true ∧ (reprText h.fl).length ≤ 60
  rk : ∃ r, Ranked h r
def Hall.still (h : Hall) : List Arc := h.arcs.filter fun x => h.gr x == 0
theorem Hall.Ok.fr {h : Hall} (o : h.Ok) : ∀ b ∈ h.bs, b.first ≤ b.room := fun b hb => (o.room b hb).1
theorem arcs_len {h : Hall} (o : h.Ok) : h.arcs.length ≤ 14 := by
  have h1 := o.n4
  have h2 := o.b5
  rw [Hall.arcs, List.length_append, List.length_map, Hall.names, List.length_map, len_fm]
  omega
theorem still_len {h : Hall} (o : h.Ok) : h.still.length ≤ 10 := by
  have e : h.still = ((List.range h.bs.length).flatMap fun i => [Arc.down i, Arc.up i]).filter fun x => h.gr x == 0 := by
    rw [Hall.still, Hall.arcs, List.filter_append]
    have : (h.names.map Arc.next).filter (fun x => h.gr x == 0) = [] := by
      apply List.filter_eq_nil_iff.mpr
      intro x hx
      obtain ⟨n, _, rfl⟩ := List.mem_map.mp hx
      simp [Hall.gr]
    rw [this, List.nil_append]
  rw [e]
  have h1 := List.length_filter_le (fun x => h.gr x == 0) ((List.range h.bs.length).flatMap fun i => [Arc.down i, Arc.up i])
  rw [len_fm] at h1
  have := o.b5
  omega
theorem still_mem {h : Hall} {x : Arc} : x ∈ h.still ↔ x ∈ h.arcs ∧ h.gr x = 0 := by
  rw [Hall.still, List.mem_filter, beq_iff_eq]
theorem Hall.Ok.stn {h : Hall} (o : h.Ok) {x : Arc} (m : x ∈ h.arcs) : h.st x ∈ h.names ∧ h.en x ∈ h.names := by
  have hx := Hall.has_of m
  cases x with
  | next n =>
    rcases List.mem_append.mp m with m | m
    · obtain ⟨k, hk, e⟩ := List.mem_map.mp m
      cases e
      exact ⟨hk, hk⟩
    · obtain ⟨i, _, m⟩ := List.mem_flatMap.mp m
      simp at m
  | down i => exact o.ends _ (Hall.belt_mem hx)
  | up i => exact ⟨(o.ends _ (Hall.belt_mem hx)).2, (o.ends _ (Hall.belt_mem hx)).1⟩
/-! ### small data -/
structure Sm (d : PyData) (k : Nat) : Prop where
  lay : d.canLay0 = true
  dep : d.depth ≤ k
theorem Sm.mono {d : PyData} {k k' : Nat} (h : Sm d k) (l : k ≤ k') : Sm d k' := ⟨h.lay, Nat.le_trans h.dep l⟩
theorem layAll_of : ∀ {ds : List PyData}, (∀ d ∈ ds, d.canLay0 = true) → PyData.canLayAll0 ds = true
  | [], _ => by simp only [PyData.canLayAll0]
  | d :: ds, h => by simp only [PyData.canLayAll0, h d List.mem_cons_self, layAll_of (fun e he => h e (List.mem_cons_of_mem _ he)), Bool.and_self]
theorem sm_int {i : Int} : Sm (.int i) 1 := ⟨by simp only [PyData.canLay0], by simp [PyData.depth]⟩
theorem sm_str {x : Str} (h : PyData.strOk x = true) : Sm (.str x) 1 := ⟨by simpa only [PyData.canLay0] using h, by simp [PyData.depth]⟩
theorem sm_tuple {ds : List PyData} {k : Nat} (h : ∀ d ∈ ds, Sm d k) : Sm (.tuple ds) (k + 1) := ⟨by simp only [PyData.canLay0]; exact layAll_of fun d hd => (h d hd).lay, by
  have := depthAll_le (fun d hd => (h d hd).dep)
  simp only [PyData.depth]
  omega⟩
theorem sm_list {ds : List PyData} {k : Nat} (h : ∀ d ∈ ds, Sm d k) : Sm (.list ds) (k + 1) := ⟨by simp only [PyData.canLay0]; exact layAll_of fun d hd => (h d hd).lay, by
  have := depthAll_le (fun d hd => (h d hd).dep)
  simp only [PyData.depth]
  omega⟩
theorem Sm.shaped {d : PyData} {k : Nat} (h : Sm d k) (l : k ≤ 64) : SeqAt.shaped d = true := by
  unfold SeqAt.shaped
  rw [h.lay, Bool.true_and, decide_eq_true_eq]
  exact Nat.le_trans h.dep l
theorem two_mem {α : Type} {p : α → Prop} {a b : α} (ha : p a) (hb : p b) : ∀ x ∈ [a, b], p x := fun x hx => by
  simp at hx
  rcases hx with rfl | rfl
  · exact ha
  · exact hb
/-! ### dicts by names -/
section
variable {g : Str → V} {n : Str} {v : V}
theorem valV_map : ∀ {ns : List Str}, n ∈ ns → valV (ns.map fun m => ((Sum.inr m : Key), g m)) (Sum.inr n) = some (g n)
  | [], h => by cases h
  | m :: ns, h => by
    by_cases e : m = n
    · rw [List.map_cons, valV_pos (by rw [e]), e]
    · rw [List.map_cons, valV_neg (fun z => e (Sum.inr.inj z))]
      exact valV_map ((List.mem_cons.mp h).resolve_left fun z => e z.symm)
theorem valV_map_none : ∀ {ns : List Str}, n ∉ ns → valV (ns.map fun m => ((Sum.inr m : Key), g m)) (Sum.inr n) = none
  | [], h => rfl
  | m :: ns, h => by
    rw [List.map_cons, valV_neg (fun z => h (by rw [Sum.inr.inj z]; exact List.mem_cons_self))]
    exact valV_map_none fun z => h (List.mem_cons_of_mem _ z)
theorem putK_map {ns : List Str} (h : n ∈ ns) : putK (ns.map fun m => ((Sum.inr m : Key), g m)) (Sum.inr n) v = ns.map fun m => ((Sum.inr m : Key), if m = n then v else g m) := by
  unfold putK
  rw [valV_any, valV_map h, Option.isSome_some, if_pos rfl, List.map_map]
  apply List.map_congr_left
  intro m _
  by_cases e : m = n
  · subst e
    simp
  · have : (Sum.inr m : Key) ≠ Sum.inr n := fun z => e (Sum.inr.inj z)
    simp [this, e]
theorem putK_fresh {ns : List Str} (h : n ∉ ns) : putK (ns.map fun m => ((Sum.inr m : Key), g m)) (Sum.inr n) v = (ns.map fun m => ((Sum.inr m : Key), g m)) ++ [(Sum.inr n, v)] := by
  unfold putK
  rw [valV_any, valV_map_none h]
  rfl
end
section
variable {P : Program} {w : World} {K : PySem.W.Frag} {mg : Str → Option Value} {base : Heap}
def sp_still_arcs : Sp := fun vs H Q _ => ∃ (v : V) (h : Hall), vs = [v] ∧ Tv H v h.py ∧ h.Ok ∧ ∀ p H' ys, Same H H' → H p = none → H' p = some (.lst ys) → TvAll H' ys (h.still.map Arc.py) → Q (.ref p) H'
theorem c_still_arcs (T : Txt K mg) : Cal P w K mg base 3 "still_arcs" sp_still_arcs [] := by
  refine cal_of T.d_still_arcs sc_still_arcs (fun vs H Q E h => by first | (obtain ⟨_, rfl, _⟩ := h; rfl) | (obtain ⟨_, _, rfl, _⟩ := h; rfl) | (obtain ⟨_, _, _, rfl, _⟩ := h; rfl) | (obtain ⟨_, _, _, _, rfl, _⟩ := h; rfl) | (obtain ⟨_, _, _, _, _, rfl, _⟩ := h; rfl) | (obtain ⟨_, _, _, _, _, _, rfl, _⟩ := h; rfl) | (obtain ⟨_, _, _, _, _, _, _, rfl, _⟩ := h; rfl) | (obtain ⟨_, _, _, _, _, _, _, _, rfl, _⟩ := h; rfl) | (obtain ⟨_, _, _, _, _, _, _, _, _, rfl, _⟩ := h; rfl) | (obtain ⟨_, _, _, _, _, _, _, _, _, _, rfl, _⟩ := h; rfl) | (obtain ⟨_, _, _, _, _, _, _, _, _, _, _, rfl, _⟩ := h; rfl) | (obtain ⟨_, _, _, _, _, _, _, _, _, _, _, _, rfl, _⟩ := h; rfl)) bi_still_arcs (fun f cdv A outer s H vs Q E hr hsp => ?_)
  have hu := hu_of hr
  have hu64 := hr.units
  have hu2 := hu2_of hr
  have hu80 := hu80_of hr
  have nd := sc_still_arcs.nd
  refine ⟨_, (pss_one (ps_ret (pe_lc (own := [("arc", 1)]) rfl nd (pit (K := K) rfl (pe_c (c_arcs_of T) hr (by decide) rfl (pa_cons (pv 0) pa_nil))) (blkOk_by (own := [("arc", 1)]) (N := n_still_arcs) (sc := defScope s_still_arcs) (by decide +kernel)) (fun _ _ _ _ _ => (pg_name (i := 1) nd rfl (by first | exact Or.inl rfl | exact Or.inr rfl))) (fun _ _ _ _ _ => (pts_one (pt_cmpR op_eq (pe_c (c_growth_of T) hr (by decide) rfl (pa_cons (pv 0) (pa_cons (pv 1) pa_nil))) pe_int (nomark _)))) (fun _ _ _ _ _ => (pv 1))))), ?_⟩
  obtain ⟨v, h, rfl, tv, ok, q⟩ := hsp
  refine ⟨_, rfl, _, h, rfl, tv, by have := ok.n4; omega, by have := ok.b5; omega, fun v1 H1 s1 t1 => ?_⟩
  obtain ⟨a1, xs1, rfl, h1, tx⟩ := t1.tup_inv
  refine ⟨_, rfl, ⟨_, SqT.of h1⟩, fun D hD => ?_⟩
  refine lc_lst h.arcs (walk_tupL (K := K) tx.lenm) hD (fun H s => SqT.of (s _ _ h1)) (fun x => h.gr x == 0) Arc.py (by have := arcs_len ok; omega) (fun i y x H2 H' hi s hy N R n r => ?_) (fun H2 ys s2 e2 t2 => q D _ ys (s1.trans s2) (s1.free hD) e2 t2)
  obtain ⟨rfl, hx⟩ := hy
  obtain ⟨v2, e1, e2⟩ := (tx.m s.tk).at hi
  rw [e1] at hx
  cases hx
  have tv2 := tv.m (s1.trans s).tk
  have ym : y ∈ h.arcs := List.mem_of_getElem? hi
  refine ⟨rfl, _, rfl, _, rfl, _, _, h, y, rfl, tv2, e2, Hall.has_of ym, ok.fr, rfl, _, rfl, ?_⟩
  have ed : decide (V.int (h.gr y : Int) = V.int 0) = (h.gr y == 0) := by
    rw [dec_int]
    by_cases e : h.gr y = 0
    · rw [e]; rfl
    · rw [show (h.gr y == 0) = false from beq_false_of_ne e, beq_eq_false_iff_ne]
      omega
  rw [ed]
  cases e : (h.gr y == 0) with
  | true => exact iteT ⟨_, rfl, r _ _ (Same.refl _) e e2⟩
  | false => exact iteF (n _ (Same.refl _) e)
/-! ### no way back -/
abbrev Itm := Str × List Arc
def itD (x : Itm) : PyData := .tuple [.str x.1, .tuple (x.2.map Arc.py)]
def wtI (r : Str → Nat) (l : List Itm) : Nat := (l.map fun x => 32 ^ (4 - r x.1)).sum
theorem wtI_append (r : Str → Nat) (a b : List Itm) : wtI r (a ++ b) = wtI r a + wtI r b := by rw [wtI, wtI, wtI, List.map_append, List.sum_append]
theorem len_wtI (r : Str → Nat) : ∀ l : List Itm, l.length ≤ wtI r l
  | [] => Nat.zero_le _
  | x :: l => by
    have h1 := len_wtI r l
    have h2 : 1 ≤ 32 ^ (4 - r x.1) := Nat.one_le_pow _ _ (by decide)
    show l.length + 1 ≤ 32 ^ (4 - r x.1) + wtI r l
    omega
def Way (h : Hall) (l : List Arc) : Prop := l.length ≤ 10 ∧ ∀ x ∈ l, x ∈ h.still
def wayD (l : List Arc) : PyData := .tuple [.int ((l.length : Nat) : Int), .tuple (l.map Arc.py)]
def BestOk (h : Hall) (H : Hp) (r : Str → Nat) (nm : Str) (kvs : List (Key × V)) : Prop := ∀ e ∈ kvs, ∃ (t : Str) (l : List Arc), e.1 = Sum.inr t ∧ r nm < r t ∧ Tv H e.2 (wayD l) ∧ Way h l
def ItmOk (h : Hall) (r : Str → Nat) (nm : Str) (l : List Itm) : Prop := ∀ x ∈ l, PyData.strOk x.1 = true ∧ r nm ≤ r x.1 ∧ x.2.length ≤ r x.1 ∧ ∀ y ∈ x.2, y ∈ h.still
section
variable {h : Hall} {H H' : Hp} {r : Str → Nat} {nm t : Str} {v : V} {l : List Arc}
theorem BestOk.m {kvs : List (Key × V)} (b : BestOk h H r nm kvs) (k : TK H H') : BestOk h H' r nm kvs := fun e he => by
  obtain ⟨t, l, h1, h2, h3, h4⟩ := b e he
  exact ⟨t, l, h1, h2, h3.m k, h4⟩
theorem BestOk.put {kvs : List (Key × V)} (b : BestOk h H r nm kvs) (ht : r nm < r t) (hv : Tv H v (wayD l)) (hl : Way h l) : BestOk h H r nm (putK kvs (Sum.inr t) v) := fun e he => by
  unfold putK at he
  split at he
  · obtain ⟨e0, h0, rfl⟩ := List.mem_map.mp he
    by_cases c : e0.1 = Sum.inr t
    · rw [if_pos c]
      exact ⟨t, l, c, ht, hv, hl⟩
    · rw [if_neg c]
      exact b e0 h0
  · rcases List.mem_append.mp he with he | he
    · exact b e he
    · simp at he
      subst he
      exact ⟨t, l, rfl, ht, hv, hl⟩
theorem BestOk.none : ∀ {kvs : List (Key × V)}, BestOk h H r nm kvs → valV kvs (Sum.inr nm) = none
  | [], _ => rfl
  | e :: kvs, b => by
    obtain ⟨t, l, h1, h2, _⟩ := b e List.mem_cons_self
    rw [valV_neg (fun z => by rw [h1] at z; rw [Sum.inr.inj z] at h2; exact Nat.lt_irrefl _ h2)]
    exact BestOk.none fun e he => b e (List.mem_cons_of_mem _ he)
theorem BestOk.get {k : Key} : ∀ {kvs : List (Key × V)}, BestOk h H r nm kvs → valV kvs k = some v → ∃ l : List Arc, Tv H v (wayD l) ∧ Way h l
  | [], _, e => by cases e
  | p :: kvs, b, e => by
    by_cases c : p.1 = k
    · rw [valV_pos c] at e
      cases e
      obtain ⟨t, l, _, _, h3, h4⟩ := b p List.mem_cons_self
      exact ⟨l, h3, h4⟩
    · rw [valV_neg c] at e
      exact BestOk.get (fun e he => b e (List.mem_cons_of_mem _ he)) e
theorem still_py {x : Arc} (m : x ∈ h.still) : ∃ a i, x.py = .tuple [.str a, .int i] ∧ PyData.strOk a = true := by
  cases x with
  | next n => exact absurd (still_mem.mp m).2 (by simp [Hall.gr])
  | down i => exact ⟨_, _, rfl, by decide +kernel⟩
  | up i => exact ⟨_, _, rfl, by decide +kernel⟩
theorem ways_alike : ∀ {l k : List Arc}, (∀ x ∈ l, x ∈ h.still) → (∀ x ∈ k, x ∈ h.still) → PySem.W.alikeAll (l.map Arc.py) (k.map Arc.py) = true
  | [], _, _, _ => by simp only [List.map_nil, PySem.W.alikeAll]
  | x :: l, [], _, _ => by simp only [List.map_nil, List.map_cons, PySem.W.alikeAll]
  | x :: l, y :: k, hl, hk => by
    obtain ⟨a, i, e1, _⟩ := still_py (hl x List.mem_cons_self)
    obtain ⟨b, j, e2, _⟩ := still_py (hk y List.mem_cons_self)
    have ih := ways_alike (fun z hz => hl z (List.mem_cons_of_mem _ hz)) fun z hz => hk z (List.mem_cons_of_mem _ hz)
    simp only [List.map_cons, PySem.W.alikeAll, e1, e2, PySem.W.alike, ih, Bool.and_self]
theorem wayD_alike {l k : List Arc} (hl : Way h l) (hk : Way h k) : PySem.W.alike (wayD l) (wayD k) = true := by
  simp only [wayD, PySem.W.alike, PySem.W.alikeAll, ways_alike hl.2 hk.2, Bool.and_self]
theorem still_sm {x : Arc} (m : x ∈ h.still) : Sm x.py 2 := by
  obtain ⟨a, i, e, s⟩ := still_py m
  rw [e]
  exact sm_tuple (two_mem (sm_str s) sm_int)
theorem ways_sm {l : List Arc} (hl : ∀ x ∈ l, x ∈ h.still) : Sm (.tuple (l.map Arc.py)) 3 := sm_tuple fun d hd => by
  obtain ⟨x, hx, rfl⟩ := List.mem_map.mp hd
  exact still_sm (hl x hx)
theorem wayD_sm {l : List Arc} (hl : Way h l) : Sm (wayD l) 4 := sm_tuple (two_mem (sm_int.mono (by decide)) (ways_sm hl.2))
theorem itD_sm {x : Itm} {l : List Itm} (o : ItmOk h r nm l) (m : x ∈ l) : Sm (itD x) 4 := sm_tuple (two_mem ((sm_str (o x m).1).mono (by decide)) (ways_sm (o x m).2.2.2))
end
/-- x + (y,) of ways -/
theorem Itm.inv {H : Hp} {v : V} {x : Itm} (t : Tv H v (itD x)) : ∃ a p zs, v = .ref a ∧ H a = some (.tup [.str x.1, .ref p]) ∧ H p = some (.tup zs) ∧ TvAll H zs (x.2.map Arc.py) := by
  obtain ⟨a, xs, rfl, ha, t⟩ := t.tup_inv
  cases t with
  | cons t1 t =>
    cases t with
    | cons t2 t =>
      cases t
      cases t1
      obtain ⟨p, zs, rfl, hp, tz⟩ := t2.tup_inv
      exact ⟨a, p, zs, rfl, ha, hp, tz⟩
/-- x + y of tuples of data -/
theorem cat_tv {K : PySem.W.Frag} {H : Hp} {p q : Addr} {xs ys : List V} {ds es : List PyData} {Q : VK} (hp : H p = some (.tup xs)) (hq : H q = some (.tup ys)) (tx : TvAll H xs ds) (ty : TvAll H ys es) (hz : xs.length + ys.length ≤ 1000) (k : ∀ v H', Same H H' → Tv H' v (.tuple (ds ++ es)) → Q v H') : rCatA K (.ref p) (.ref q) H Q := by
  refine ⟨p, q, xs, ys, rfl, rfl, SqT.of hp, SqT.of hq, small (by omega), fun e => ?_, fun _ e => ?_, fun _ _ l hl => ?_⟩
  · subst e
    cases tx
    exact k _ _ (Same.refl _) (.tup hq ty)
  · subst e
    cases ty
    rw [List.append_nil] at k
    exact k _ _ (Same.refl _) (.tup hp tx)
  · have s : Same H (upd H l (.tup (xs ++ ys))) := Same.new hl
    exact k _ _ s (.tup upd_same ((tx.append ty).m s.tk))
theorem tIfS_any {c : TT} {t u : TS} {D : Ends} {σ : L2.St} {H : Hp} (G : Bool → Hp → Prop) (hc : ∀ Q : Bool → Hp → Prop, (∀ b H', G b H' → Q b H') → c σ H Q) (ht : ∀ H', G true H' → t D σ H') (hu : ∀ H', G false H' → u D σ H') : tIfS c t u D σ H := hc _ fun b H' g => by
  cases b with
  | true => exact iteT (ht H' g)
  | false => exact iteF (hu H' g)
def sp_least_back : Sp := fun vs H Q _ => ∃ (v : V) (nm : Str) (h : Hall) (r : Str → Nat), vs = [v, .str nm] ∧ Tv H v h.py ∧ h.Ok ∧ Ranked h r ∧ nm ∈ h.names ∧ ∀ H', Same H H' → Q .non H'
theorem c_least_back (T : Txt K mg) : Cal P w K mg base 4 "least_back" sp_least_back [] := by
  refine cal_of T.d_least_back sc_least_back (fun vs H Q E h => by first | (obtain ⟨_, rfl, _⟩ := h; rfl) | (obtain ⟨_, _, rfl, _⟩ := h; rfl) | (obtain ⟨_, _, _, rfl, _⟩ := h; rfl) | (obtain ⟨_, _, _, _, rfl, _⟩ := h; rfl) | (obtain ⟨_, _, _, _, _, rfl, _⟩ := h; rfl) | (obtain ⟨_, _, _, _, _, _, rfl, _⟩ := h; rfl) | (obtain ⟨_, _, _, _, _, _, _, rfl, _⟩ := h; rfl) | (obtain ⟨_, _, _, _, _, _, _, _, rfl, _⟩ := h; rfl) | (obtain ⟨_, _, _, _, _, _, _, _, _, rfl, _⟩ := h; rfl) | (obtain ⟨_, _, _, _, _, _, _, _, _, _, rfl, _⟩ := h; rfl) | (obtain ⟨_, _, _, _, _, _, _, _, _, _, _, rfl, _⟩ := h; rfl) | (obtain ⟨_, _, _, _, _, _, _, _, _, _, _, _, rfl, _⟩ := h; rfl)) bi_least_back (fun f cdv A outer s H vs Q E hr hsp => ?_)
  have hu := hu_of hr
  have hu64 := hr.units
  have hu2 := hu2_of hr
  have hu80 := hu80_of hr
  have nd := sc_least_back.nd
  refine ⟨_, (pss_cons (ps_par (i := 2) (j := 3) (by rfl) nd rfl rfl (by decide) rfl rfl (pa_cons pe_dnewK (pa_cons (pe_lst (pa_cons (pe_tup (pa_cons (pv 1) (pa_cons (pe_tup pa_nil) pa_nil))) pa_nil)) pa_nil)) (by rfl))
    (pss_cons (ps_while PassesOwn.never (pt_cmpR (op_neLd (K := K) rfl hu64) (pv 3) (pe_lst pa_nil) (nomark _)) (pss_cons (ps_asg (pe_bm PySem.F.plainAttrs_list PySem.F.slot_list_pop PySem.F.type_list_pop mt_popAt (pv 3) (pa_cons pe_int pa_nil)) (pgt (K := K) rfl (pgs_cons (pg_name (i := 4) nd rfl (by first | exact Or.inl rfl | exact Or.inr rfl)) (pgs_cons (pg_name (i := 5) nd rfl (by first | exact Or.inl rfl | exact Or.inr rfl)) pgs_nil))))
    (pss_one (ps_for PassesOwn.never rfl (pil (K := K) rfl (pe_c (c_still_arcs T) hr (by decide) rfl (pa_cons (pv 0) pa_nil))) (pg_name (i := 6) nd rfl (by first | exact Or.inl rfl | exact Or.inr rfl)) (pss_cons (ps_par (i := 7) (j := 8) (by rfl) nd rfl rfl (by decide) rfl rfl (pa_cons (pe_c (c_end_of T) hr (by decide) rfl (pa_cons (pv 0) (pa_cons (pv 6) pa_nil))) (pa_cons (pe_op (op_catAK (K := K) rfl) (pv 5) (pe_tup (pa_cons (pv 6) pa_nil))) pa_nil)) (by rfl))
    (pss_one (ps_if (PW.pt (pw_and (pt_cmpR op_eq (pe_c (c_start_of T) hr (by decide) rfl (pa_cons (pv 0) (pa_cons (pv 6) pa_nil))) (pv 4) (nomark _)) (pw_and1 (PW.pt (pw_or (pt_cmp (pc_dnotin hu (pv 7) (pv 2))) (pw_or1 (pt_cmpR (op_ltDk (K := K) rfl hu64) (pe_tup (pa_cons (pe_callB (cr_len (K := K) rfl) (by rfl) T.b_len (by decide +kernel) (pa_cons (pv 8) pa_nil)) (pa_cons (pv 8) pa_nil))) (pe_dget hu (pv 2) (pv 7) (fun _ _ => rfl)) (nomark _)))))))) (pss_cons (ps_dput hu (pv 2) (pv 7) (pe_tup (pa_cons (pe_callB (cr_len (K := K) rfl) (by rfl) T.b_len (by decide +kernel) (pa_cons (pv 8) pa_nil)) (pa_cons (pv 8) pa_nil))) rfl)
    (pss_one (ps_expr (pe_bm PySem.F.plainAttrs_list PySem.F.slot_list_append PySem.F.type_list_append mt_append (pv 3) (pa_cons (pe_tup (pa_cons (pv 7) (pa_cons (pv 8) pa_nil))) pa_nil))))) pss_nil)))))))
    (pss_one (ps_ret (pe_ifExp (pt_cmp (pc_din hu (pv 1) (pv 2))) (pe_dget hu (pv 2) (pv 1) (fun _ _ => rfl)) pe_non))))), ?_⟩
  obtain ⟨v, nm, h, r, rfl, tv, ok, rk, hnm, q⟩ := hsp
  obtain ⟨a, m0, b0, ms0, bs0, rfl, ha, -⟩ := Hall.inv tv
  refine fun B hB => ⟨_, rfl, by show 0 ≤ sizeLine; decide, fun p1 hp1 => ⟨by show 2 ≤ sizeLine; decide, fun p2 hp2 => ⟨by show 1 ≤ sizeLine; decide, fun Wd hW => ⟨_, _, rfl, ?_⟩⟩⟩⟩
  have k0 : Same H (upd H B (.dK [])) := Same.new hB
  have k1 : Same _ (upd _ p1 (.tup [])) := Same.new hp1
  have k2 : Same _ (upd _ p2 (.tup [.str nm, .ref p1])) := Same.new hp2
  have k3 : Same _ (upd _ Wd (.lst [.ref p2])) := Same.new hW
  have k03 := k1.trans (k2.trans k3)
  have kH := k0.trans k03
  have eB := k03 _ _ (upd_same (H := H) (a := B) (o := .dK []))
  have hWH : H Wd = none := (k0.trans (k1.trans k2)).free hW
  have hBH : H B = none := hB
  have eW := upd_same (H := upd (upd (upd H B (.dK [])) p1 (.tup [])) p2 (.tup [.str nm, .ref p1])) (a := Wd) (o := .lst [.ref p2])
  have e2 := k3 _ _ (upd_same (H := upd (upd H B (.dK [])) p1 (.tup [])) (a := p2) (o := .tup [.str nm, .ref p1]))
  have e1 := k3 _ _ (k2 _ _ (upd_same (H := upd H B (.dK [])) (a := p1) (o := .tup [])))
  refine ⟨fun m σ H' => ∃ (kvs : List (Key × V)) (items : List Itm) (wv : List V) (o4 o5 o6 o7 o8 : Option V), σ = [some (.ref a), some (.str nm), some (.ref B), some (.ref Wd), o4, o5, o6, o7, o8] ∧ Same H H' ∧ H' B = some (.dK kvs) ∧ BestOk h H' r nm kvs ∧
    H' Wd = some (.lst wv) ∧ TvAll H' wv (items.map itD) ∧ ItmOk h r nm items ∧ m = kvs.length + wtI r items ∧ m ≤ 2 ^ 20, ⟨_, [], [(nm, [])], _, _, _, _, _, _, rfl, kH, eB, fun e he => absurd he (by simp), eW, .cons (.tup e2 (.cons (.str _) (.cons (.tup e1 .nil) .nil))) .nil, ?_, rfl, ?_⟩, ?_⟩
  · intro x hx
    simp at hx
    subst hx
    exact ⟨(ok.str _ hnm).1, Nat.le_refl _, Nat.zero_le _, fun y hy => absurd hy (by simp)⟩
  · show 0 + (32 ^ (4 - r nm) + 0) ≤ 2 ^ 20
    have : 32 ^ (4 - r nm) ≤ 32 ^ 4 := Nat.pow_le_pow_right (by decide) (by omega)
    omega
  · rintro m σ H' ⟨kvs, items, wv, o4, o5, o6, o7, o8, rfl, s, hBk, bo, hWl, tw, io, rfl, hm⟩
    have kp : ∀ {p}, H' p = none → Same H' (upd H' p (.lst [])) := fun hp => Same.new hp
    refine ⟨_, rfl, by show 0 ≤ sizeLine; decide, fun p hp => ⟨.list (items.map itD), .list [], .lst (SqL.of (kp hp _ _ hWl)) (tw.m (kp hp).tk).dp, .lst (SqL.of upd_same) .nil, Sm.shaped (k := 5) (sm_list fun d hd => ?_) (by decide), Sm.shaped (k := 2) (sm_list (k := 1) (by simp)) (by decide), _, rfl, ?_⟩⟩
    · obtain ⟨x, hx, rfl⟩ := List.mem_map.mp hd
      exact itD_sm io hx
    have s1 := s.trans (kp hp)
    have tk1 := (kp hp).tk
    have hB1 := kp hp _ _ hBk
    have hW1 := kp hp _ _ hWl
    generalize upd H' p (.lst []) = H1 at s1 tk1 hB1 hW1 ⊢
    have bo1 := bo.m tk1
    have tw1 := tw.m tk1
    have hBW : B ≠ Wd := ne_of hB1 hW1 (by intro z; cases z)
    cases items with
    | nil =>
      refine iteF ?_
      refine ⟨_, rfl, _, rfl, _, _, rfl, DGet.k (k := Sum.inr nm) hB1, ?_⟩
      rw [bo1.none]
      exact ⟨_, rfl, iteF (q _ s1)⟩
    | cons x items =>
      refine iteT ⟨fun σ' H' => ∃ m', m' < kvs.length + wtI r (x :: items) ∧ _, fun σ' H' z => z, ?_⟩
      cases tw1 with
      | cons tx tws =>
        obtain ⟨ap0, ap, zs, rfl, hap0, hap, tz⟩ := Itm.inv tx
        rename_i wvs
        refine ⟨_, rfl, .inl ⟨rfl, _, SqL.of hW1⟩, _, _, 0, 0, _, rfl, rfl, hW1, by decide, by decide, seqIndex_of (by decide) (by simp only [List.length_cons]; omega), rfl, _, _, rfl, SqT.of ((TK.lst hW1) _ _ hap0), rfl, _, _, rfl, _, _, rfl, rfl, ?_⟩
        have s2 : Same H (upd H1 Wd (.lst ((V.ref ap0 :: wvs).eraseIdx 0))) := s1.mut hWH
        have tk2 : TK H1 (upd H1 Wd (.lst ((V.ref ap0 :: wvs).eraseIdx 0))) := TK.lst hW1
        have hW2 : (upd H1 Wd (.lst ((V.ref ap0 :: wvs).eraseIdx 0))) Wd = some (.lst wvs) := upd_same
        have hB2 : (upd H1 Wd (.lst ((V.ref ap0 :: wvs).eraseIdx 0))) B = some (.dK kvs) := by rw [upd_ne hBW]; exact hB1
        have hap2 := tk2 _ _ hap
        have tz2 := tz.m tk2
        have tws2 := tws.m tk2
        have bo2 := bo1.m tk2
        generalize upd H1 Wd (.lst ((V.ref ap0 :: wvs).eraseIdx 0)) = H2 at s2 hW2 hB2 hap2 tz2 tws2 bo2 ⊢
        refine ⟨_, rfl, _, h, rfl, tv.m s2.tk, ok, fun pS H3 ys s3 hpS eS tS => ⟨_, rfl, ⟨_, SqL.of eS⟩, ?_⟩⟩
        have ioT : ItmOk h r nm items := fun z hz => io z (List.mem_cons_of_mem _ hz)
        have iox := io x List.mem_cons_self
        refine for_it (walk_listL (K := K) tS.lenm) (fun i σ H4 => ∃ (kv : List (Key × V)) (its : List Itm) (wv : List V) (o6 o7 o8 : Option V), σ = [some (.ref a), some (.str nm), some (.ref B), some (.ref Wd), some (.str x.1), some (.ref ap), o6, o7, o8] ∧
          Same H H4 ∧ Sx (fun c => c = B ∨ c = Wd) H3 H4 ∧ TK H3 H4 ∧ H4 B = some (.dK kv) ∧ BestOk h H4 r nm kv ∧ H4 Wd = some (.lst wv) ∧ TvAll H4 wv (its.map itD) ∧ ItmOk h r nm its ∧
          kv.length + wtI r its ≤ kvs.length + wtI r items + i * (32 ^ (3 - r x.1) + 1))
          ⟨kvs, items, wvs, _, _, _, rfl, s2.trans s3, Sx.refl _, TK.refl _, s3 _ _ hB2, bo2.m s3.tk, s3 _ _ hW2, tws2.m s3.tk, ioT, by omega⟩ (fun i σ H4 _ p => ?_) (fun i xv σ H4 H5 hi p hy => ?_) (fun σ H4 p => ?_)
        · obtain ⟨_, _, _, _, _, _, _, _, sx, _⟩ := p
          refine SqL.of (sx _ _ (fun z => ?_) eS)
          rcases z with rfl | rfl
          · rw [hpS] at hB2; cases hB2
          · rw [hpS] at hW2; cases hW2
        · obtain ⟨kv, its, wv, o6, o7, o8, rfl, s4, sx, tk4, hB4, bo4, hW4, tw4, io4, hm4⟩ := p
          obtain ⟨rfl, hx⟩ := hy
          have ei : h.still[i]? = some h.still[i] := List.getElem?_eq_getElem hi
          obtain ⟨v2, e1, e2⟩ := tS.at ei
          rw [e1] at hx
          cases hx
          generalize h.still[i] = y at ei e2
          have ym : y ∈ h.still := List.mem_of_getElem? ei
          have ya := still_mem.mp ym
          have e24 := e2.m tk4
          have yn := ok.stn ya.1
          refine ⟨_, rfl, _, rfl, _, _, h, y, rfl, tv.m s4.tk, e24, Hall.has_of ya.1, _, rfl, _, rfl, by show 1 ≤ sizeLine; decide, fun p5 hp5 => ?_⟩
          have k5 : Same H5 (upd H5 p5 (.tup [xv])) := Same.new hp5
          refine cat_tv (k5 _ _ (tk4 _ _ (s3 _ _ hap2))) upd_same ((tz2.m s3.tk).m (tk4.trans k5.tk)) (.cons (e24.m k5.tk) .nil) ?_ (fun v6 H6 k6 t6 => ⟨_, _, rfl, ?_⟩)
          · have h1 := tz2.lenm
            have h2 := iox.2.2.1
            have h3 := rk.le x.1
            simp only [List.length_cons, List.length_nil]
            omega
          have k56 := k5.trans k6
          have t6' : Tv H6 v6 (.tuple ((x.2 ++ [y]).map Arc.py)) := by rw [List.map_append]; exact t6
          obtain ⟨ap6, zs6, rfl, hap6, tz6⟩ := t6'.tup_inv
          dsimp only
          refine tIfS_any (fun b H7 => Same H6 H7 ∧ (b = true → h.st y = x.1)) (fun Qb k => ?_) (fun H7 g => ?_) (fun H7 g => ?_)
          · have yS := Hall.has_of ya.1
            have tvq := tv.m (s4.trans k56).tk
            have eyq := e24.m k56.tk
            have hBq := k56 _ _ hB4
            have boq := bo4.m k56.tk
            refine ⟨_, rfl, _, rfl, _, _, h, y, rfl, tvq, eyq, yS, _, rfl, rfl, _, rfl, ?_⟩
            rw [dec_str]
            by_cases c : h.st y = x.1
            · rw [decide_eq_true c]
              refine iteT ⟨_, rfl, _, rfl, _, _, rfl, DGet.k (k := Sum.inr (h.en y)) hBq, _, rfl, ?_⟩
              cases ev : valV kv (Sum.inr (h.en y)) with
              | none => exact iteT (k _ _ ⟨Same.refl _, fun _ => c⟩)
              | some vv =>
                refine iteF ?_
                obtain ⟨l, tl, wl⟩ := boq.get ev
                refine ⟨_, rfl, _, _, rfl, .inr (SqT.of hap6), _, rfl, by show 2 ≤ sizeLine; decide, fun p9 hp9 => ?_⟩
                have k9 : Same H6 (upd H6 p9 (.tup [.int (zs6.length : Nat), .ref ap6])) := Same.new hp9
                refine ⟨_, rfl, _, rfl, _, vv, rfl, by rw [← ev]; exact DGet.k (k := Sum.inr (h.en y)) (k9 _ _ hBq), ?_⟩
                have wy : Way h (x.2 ++ [y]) := ⟨by
                  have h2 := iox.2.2.1
                  have h3 := rk.le x.1
                  simp only [List.length_append, List.length_cons, List.length_nil]
                  omega, fun z hz => by
                  rcases List.mem_append.mp hz with hz | hz
                  · exact iox.2.2.2 z hz
                  · simp at hz
                    subst hz
                    exact ym⟩
                refine ⟨wayD (x.2 ++ [y]), wayD l, (Tv.tup upd_same (.cons ?_ (.cons (t6'.m k9.tk) .nil))).dp, (tl.m k9.tk).dp, wayD_alike wy wl, (by unfold wayD; intro z; cases z), ?_, _, rfl, k _ _ ⟨k9, fun _ => c⟩⟩
                · rw [tz6.lenm]
                  exact .int _
                · have := (wayD_sm wy).dep
                  omega
            · rw [decide_eq_false c]
              exact iteF (k _ _ ⟨Same.refl _, fun z => by cases z⟩)
          · obtain ⟨s67, est⟩ := g
            have est := est rfl
            have k57 := k56.trans s67
            have hB7 := k57 _ _ hB4
            have hW7 := k57 _ _ hW4
            have bo7 := bo4.m k57.tk
            have tw7 := tw4.m k57.tk
            have hap7 := s67 _ _ hap6
            have t7 := t6'.m s67.tk
            have up := rk.up y ya.1 ya.2
            rw [est] at up
            have le3 := rk.le (h.en y)
            have wy : Way h (x.2 ++ [y]) := ⟨by
              have h2 := iox.2.2.1
              simp only [List.length_append, List.length_cons, List.length_nil]
              omega, fun z hz => by
              rcases List.mem_append.mp hz with hz | hz
              · exact iox.2.2.2 z hz
              · simp at hz
                subst hz
                exact ym⟩
            have s7 : Same H H7 := s4.trans k57
            have sx7 : Sx (fun c => c = B ∨ c = Wd) H3 H7 := sx.trans (same_sx k57)
            have tk7 := tk4.trans k57.tk
            refine ⟨_, rfl, _, _, rfl, .inr (SqT.of hap7), _, rfl, by show 2 ≤ sizeLine; decide, fun p9 hp9 => ⟨_, rfl, _, rfl, ?_⟩⟩
            have k9 : Same H7 (upd H7 p9 (.tup [.int (zs6.length : Nat), .ref ap6])) := Same.new hp9
            have tv9 : Tv (upd H7 p9 (.tup [.int (zs6.length : Nat), .ref ap6])) (.ref p9) (wayD (x.2 ++ [y])) := .tup upd_same (.cons (by rw [tz6.lenm]; exact .int _) (.cons (t7.m k9.tk) .nil))
            have bo9 := bo7.m k9.tk
            have tw9 := tw7.m k9.tk
            have t9 := t7.m k9.tk
            have hB9 := k9 _ _ hB7
            have hW9 := k9 _ _ hW7
            have s9 := s7.trans k9
            have sx9 : Sx (fun c => c = B ∨ c = Wd) H3 _ := sx7.trans (same_sx k9)
            have tk9 := tk7.trans k9.tk
            have hBne : H B = none := hBH
            have lim : kv.length + wtI r its ≤ 2 ^ 21 := by
              have h1 : wtI r (x :: items) = 32 ^ (4 - r x.1) + wtI r items := rfl
              have h2 : 32 ^ (3 - r x.1) ≤ 32 ^ 3 := Nat.pow_le_pow_right (by decide) (by omega)
              have h3 := tS.lenm
              have h4 := still_len ok
              have h5 : i ≤ 10 := by omega
              have h6 : i * (32 ^ (3 - r x.1) + 1) ≤ 10 * (32 ^ 3 + 1) := Nat.mul_le_mul h5 (Nat.succ_le_succ h2)
              generalize 32 ^ (4 - r x.1) = u4 at h1
              generalize i * (32 ^ (3 - r x.1) + 1) = u3 at h6 hm4
              omega
            have lwt := len_wtI r its
            refine ⟨_, _, rfl, DPut.k (k := Sum.inr (h.en y)) hB9 (by have : sizeLine = 2 ^ 24 := rfl; omega), ?_⟩
            have hB10 := upd_same (H := upd H7 p9 (.tup [.int (zs6.length : Nat), .ref ap6])) (a := B) (o := .dK (putK kv (Sum.inr (h.en y)) (.ref p9)))
            have tkB : TK (upd H7 p9 (.tup [.int (zs6.length : Nat), .ref ap6])) (upd (upd H7 p9 (.tup [.int (zs6.length : Nat), .ref ap6])) B (.dK (putK kv (Sum.inr (h.en y)) (.ref p9)))) := fun c cs hc => by
              rw [upd_ne (ne_of hc hB9 (by intro z; cases z))]
              exact hc
            have hW10 : (upd (upd H7 p9 (.tup [.int (zs6.length : Nat), .ref ap6])) B (.dK (putK kv (Sum.inr (h.en y)) (.ref p9)))) Wd = some (.lst wv) := by
              rw [upd_ne (Ne.symm hBW)]
              exact hW9
            have s10 : Same H (upd (upd H7 p9 (.tup [.int (zs6.length : Nat), .ref ap6])) B (.dK (putK kv (Sum.inr (h.en y)) (.ref p9)))) := s9.mut hBne
            have sx10 : Sx (fun c => c = B ∨ c = Wd) H3 (upd (upd H7 p9 (.tup [.int (zs6.length : Nat), .ref ap6])) B (.dK (putK kv (Sum.inr (h.en y)) (.ref p9)))) := sx9.at (.inl rfl)
            have bo10 := (bo9.put (t := h.en y) (by have := iox.2.1; omega) tv9 wy).m tkB
            have tw10 := tw9.m tkB
            have t10 := t9.m tkB
            have tk10 := tk9.trans tkB
            generalize upd (upd H7 p9 (.tup [.int (zs6.length : Nat), .ref ap6])) B (.dK (putK kv (Sum.inr (h.en y)) (.ref p9))) = H10 at hB10 hW10 s10 sx10 bo10 tw10 t10 tk10 ⊢
            refine ⟨_, rfl, .inl ⟨rfl, _, SqL.of hW10⟩, _, rfl, _, rfl, by show 2 ≤ sizeLine; decide, fun p11 hp11 => ⟨_, wv, _, rfl, rfl, (Same.new hp11) _ _ hW10, ?_, ?_⟩⟩
            · have := tw4.lenm
              have : sizeLine = 2 ^ 24 := rfl
              omega
            have k11 : Same H10 (upd H10 p11 (.tup [.str (h.en y), .ref ap6])) := Same.new hp11
            have hW11 := k11 _ _ hW10
            have tkW : TK H10 (upd (upd H10 p11 (.tup [.str (h.en y), .ref ap6])) Wd (.lst (wv ++ [.ref p11]))) := k11.tk.trans (TK.lst hW11)
            refine ⟨_, its ++ [(h.en y, x.2 ++ [y])], _, _, _, _, rfl, (s10.trans k11).mut hWH, (sx10.trans (same_sx k11)).at (.inr rfl), tk10.trans tkW, ?_, bo10.m tkW, upd_same, ?_, ?_, ?_⟩
            · rw [upd_ne hBW]
              exact k11 _ _ hB10
            · rw [List.map_append]
              exact (tw10.m tkW).append (.cons (.tup ((TK.lst hW11) _ _ upd_same) (.cons (.str _) (.cons (t10.m tkW) .nil))) .nil)
            · intro z hz
              rcases List.mem_append.mp hz with hz | hz
              · exact io4 z hz
              · simp at hz
                subst hz
                refine ⟨(ok.str _ yn.2).1, by have := iox.2.1; show r nm ≤ r (h.en y); omega, ?_, wy.2⟩
                show (x.2 ++ [y]).length ≤ r (h.en y)
                have := iox.2.2.1
                simp only [List.length_append, List.length_cons, List.length_nil]
                omega
            · have h1 := length_putK kv (Sum.inr (h.en y)) (V.ref p9)
              rw [wtI_append]
              have h2 : wtI r [(h.en y, x.2 ++ [y])] = 32 ^ (4 - r (h.en y)) := by
                show 32 ^ (4 - r (h.en y)) + 0 = _
                rfl
              have h3 : 32 ^ (4 - r (h.en y)) ≤ 32 ^ (3 - r x.1) := Nat.pow_le_pow_right (by decide) (by omega)
              rw [h2, Nat.succ_mul]
              omega
          · obtain ⟨s67, -⟩ := g
            have k57 := k56.trans s67
            exact ⟨kv, its, wv, _, _, _, rfl, s4.trans k57, sx.trans (same_sx k57), tk4.trans k57.tk, k57 _ _ hB4, bo4.m k57.tk, k57 _ _ hW4, tw4.m k57.tk, io4, Nat.le_trans hm4 (by rw [Nat.succ_mul]; exact Nat.add_le_add_left (Nat.le_add_right _ _) _)⟩
        · obtain ⟨kv, its, wv, o6, o7, o8, rfl, s4, sx, tk4, hB4, bo4, hW4, tw4, io4, hm4⟩ := p
          have h1 : wtI r (x :: items) = 32 ^ (4 - r x.1) + wtI r items := rfl
          have h2 : 32 ^ (4 - r x.1) = 32 * 32 ^ (3 - r x.1) := by
            have := rk.le x.1
            rw [show 4 - r x.1 = (3 - r x.1) + 1 by omega, Nat.pow_succ, Nat.mul_comm]
          have h3 : h.still.length * (32 ^ (3 - r x.1) + 1) ≤ 10 * (32 ^ (3 - r x.1) + 1) := Nat.mul_le_mul_right _ (still_len ok)
          have h4 : 1 ≤ 32 ^ (3 - r x.1) := Nat.one_le_pow _ _ (by decide)
          have h5 : kv.length + wtI r its < kvs.length + wtI r (x :: items) := by
            have h6 := Nat.le_trans hm4 (Nat.add_le_add_left h3 _)
            rw [h1, h2]
            generalize 32 ^ (3 - r x.1) = u at h4 h6
            omega
          exact ⟨kv.length + wtI r its, h5, kv, its, wv, _, _, _, _, _, rfl, s4, hB4, bo4, hW4, tw4, io4, rfl, Nat.le_trans (Nat.le_of_lt h5) hm⟩
end
end K41
/-! no dead ring; heights -/
namespace K41
open PySem PySem.Spec PyProof.Rows L2
open C8 (Cal pe_c)
section
variable {P : Program} {w : World} {K : PySem.W.Frag} {mg : Str → Option Value} {base : Heap}
theorem TvAll.nons {H : Hp} {α : Type} : ∀ {l : List α} {vs : List V}, TvAll H vs (l.map fun _ => PyData.none) → ∀ (i : Nat) (v : V), vs[i]? = some v → v = .non
  | [], _, h, i, v, e => by cases h; simp at e
  | a :: l, _, h, i, v, e => by
    cases h with
    | cons h1 h2 =>
      cases i with
      | zero =>
        simp at e
        subst e
        cases h1
        rfl
      | succ i => exact TvAll.nons h2 i v (by simpa using e)
/-- what is no dict of plain keys stands -/
def NK (H H' : Hp) : Prop := ∀ a o, (∀ kvs, o ≠ .dK kvs) → H a = some o → H' a = some o
theorem nk_same {H H' : Hp} (s : Same H H') : NK H H' := fun a o _ e => s a o e
theorem NK.tk {H H' : Hp} (s : NK H H') : TK H H' := fun a xs e => s a _ (fun _ z => by cases z) e
theorem NK.put {H : Hp} {D : Addr} {kvs : List (Key × V)} {o : HO} (e : H D = some (.dK kvs)) : NK H (upd H D o) := fun a u n h => by
  rw [upd_ne (fun z => by subst z; rw [h] at e; exact n _ (Option.some.inj e))]
  exact h
theorem NK.trans {H H1 H2 : Hp} (a : NK H H1) (b : NK H1 H2) : NK H H2 := fun c o n h => b c o n (a c o n h)
theorem keys_fresh {G : Str → V → Prop} {n : Str} : ∀ {ns : List Str} {kvs : List (Key × V)}, Paired (fun m (p : Key × V) => p.1 = Sum.inr m ∧ G m p.2) ns kvs → n ∉ ns → valV kvs (Sum.inr n) = none
  | _, _, .nil, _ => rfl
  | _, _, .cons h t, hn => by
    rw [valV_neg (fun z => hn (by rw [h.1] at z; rw [Sum.inr.inj z]; exact List.mem_cons_self))]
    exact keys_fresh t fun z => hn (List.mem_cons_of_mem _ z)
theorem keys_get {G : Str → V → Prop} {n : Str} : ∀ {ns : List Str} {kvs : List (Key × V)}, Paired (fun m (p : Key × V) => p.1 = Sum.inr m ∧ G m p.2) ns kvs → n ∈ ns → ∃ v, valV kvs (Sum.inr n) = some v ∧ G n v
  | _, _, .nil, h => by cases h
  | _, _, .cons (a := m) (b := p) h t, hn => by
    by_cases e : m = n
    · subst e
      exact ⟨p.2, valV_pos h.1, h.2⟩
    · obtain ⟨v, h1, h2⟩ := keys_get t ((List.mem_cons.mp hn).resolve_left fun z => e z.symm)
      exact ⟨v, by rw [valV_neg (fun z => e (by rw [h.1] at z; exact Sum.inr.inj z))]; exact h1, h2⟩
/-- a dict comprehension whose keys are the names ns, one a turn; G: what the values are -/
theorem dc_gen {J : It} {Gd : Hp → Prop} {Y : Nat → Hp → V → Hp → Prop} {ns : List Str} (w : Walk J ns.length Gd Y) {g : TG} {tt : TT} {tk tv : TE} {vs : List Nat} {σ : L2.St} {H1 : Hp} {D : Addr} {Qd : Hp → Prop} (hD : H1 D = none) (nd : ns.Nodup)
    (hG : ∀ H, Same H1 H → Gd H) (G : Str → V → Hp → Prop) (mono : ∀ n v H H', NK H H' → G n v H → G n v H') (hn : ns.length ≤ 50000)
    (step : ∀ i n x H H', ns[i]? = some n → Same H1 H → Y i H x H' → ∀ (N : Hp → Prop) (R : V → V → Hp → Prop), (∀ z H5, Same H H5 → G n z H5 → R (.str n) z H5) →
      g x (wipe σ vs) H' fun σ2 H2 => wipe σ2 vs = wipe σ vs ∧ tt σ2 H2 fun b H3 => if b = true then tk σ2 H3 fun y H4 => tv σ2 H4 fun z H5 => R y z H5 else N H3)
    (done : ∀ H' kvs, Same H1 H' → H' D = some (.dK kvs) → Paired (fun n (p : Key × V) => p.1 = Sum.inr n ∧ G n p.2 H') ns kvs → Qd H') :
    ∃ W : Nat → Nat → Hp → Prop, (∃ m, W 0 m (upd H1 D (.dK []))) ∧ ∀ i m H, W i m H →
      (J.stop i H ∧ Qd H) ∨ (J.go i H ∧ ∃ Nx : Hp → Prop, (∀ H', Nx H' → ∃ m', m' < m ∧ W (i + 1) m' H') ∧ ∀ x H', J.yld i H x H' → g x (wipe σ vs) H' fun σ2 H2 => wipe σ2 vs = wipe σ vs ∧ tt σ2 H2 fun b H3 =>
        if b = true then tk σ2 H3 fun y H4 => tv σ2 H4 fun z H5 => ∃ kvs k, y = kV k ∧ H5 D = some (.dK kvs) ∧ kvs.length < sizeLine ∧ Nx (upd H5 D (.dK (putK kvs k z))) else Nx H3) := by
  refine ⟨fun i m H => m = ns.length - i ∧ i ≤ ns.length ∧ Same H1 H ∧ ∃ kvs, H D = some (.dK kvs) ∧ Paired (fun n (p : Key × V) => p.1 = Sum.inr n ∧ G n p.2 H) (ns.take i) kvs, ⟨ns.length, by simp, Nat.zero_le _, Same.new hD, [], upd_same, .nil⟩, ?_⟩
  rintro i m H ⟨rfl, hi, s, kvs, e, p⟩
  by_cases hlt : i < ns.length
  · have en : ns[i]? = some ns[i] := List.getElem?_eq_getElem hlt
    refine .inr ⟨w.goes i H hlt (hG H s), fun H' => Same H1 H' ∧ ∃ kvs, H' D = some (.dK kvs) ∧ Paired (fun n (p : Key × V) => p.1 = Sum.inr n ∧ G n p.2 H') (ns.take (i + 1)) kvs, fun H' q => ⟨ns.length - (i + 1), by omega, rfl, hlt, q⟩, fun x H' y => ?_⟩
    refine step i ns[i] x H H' en s (w.yields i H x H' hlt (hG H s) y) _ _ fun z H5 s5 gz => ?_
    have fr : ns[i] ∉ ns.take i := fun hm => by
      obtain ⟨j, hj⟩ := List.mem_iff_getElem?.mp hm
      rw [List.getElem?_take] at hj
      split at hj
      · rename_i hji
        obtain ⟨hj2, e2⟩ := List.getElem?_eq_some_iff.mp hj
        have := (List.getElem_inj nd).mp e2
        omega
      · cases hj
    have vn : valV kvs (Sum.inr ns[i]) = none := keys_fresh (G := fun n v => G n v H) p fr
    have hl : kvs.length = i := by
      rw [← Paired.length p, List.length_take]
      omega
    have eD := s5 _ _ e
    refine ⟨kvs, Sum.inr ns[i], rfl, eD, smallL (by omega), (s.trans s5).mut hD, _, upd_same, ?_⟩
    have nk : NK H (upd H5 D (.dK (putK kvs (Sum.inr ns[i]) z))) := (nk_same s5).trans (NK.put eD)
    have ep : putK kvs (Sum.inr ns[i]) z = kvs ++ [(Sum.inr ns[i], z)] := by
      unfold putK
      rw [valV_any, vn]
      rfl
    rw [ep] at nk ⊢
    rw [List.take_succ, en]
    exact Paired.snoc (Paired.mapP p fun n q hq => ⟨hq.1, mono _ _ _ _ nk hq.2⟩) ⟨rfl, mono _ _ _ _ (NK.put eD) gz⟩
  · have ei : i = ns.length := by omega
    subst ei
    rw [List.take_length] at p
    exact .inl ⟨w.stops H (hG H s), done H kvs s e p⟩
def sp_dead_ring : Sp := fun vs H Q _ => ∃ (v : V) (h : Hall) (r : Str → Nat), vs = [v] ∧ Tv H v h.py ∧ h.Ok ∧ Ranked h r ∧ ∀ H', Same H H' → Q .non H'
theorem c_dead_ring (T : Txt K mg) : Cal P w K mg base 5 "dead_ring" sp_dead_ring [] := by
  refine cal_of T.d_dead_ring sc_dead_ring (fun vs H Q E h => by first | (obtain ⟨_, rfl, _⟩ := h; rfl) | (obtain ⟨_, _, rfl, _⟩ := h; rfl) | (obtain ⟨_, _, _, rfl, _⟩ := h; rfl) | (obtain ⟨_, _, _, _, rfl, _⟩ := h; rfl) | (obtain ⟨_, _, _, _, _, rfl, _⟩ := h; rfl) | (obtain ⟨_, _, _, _, _, _, rfl, _⟩ := h; rfl) | (obtain ⟨_, _, _, _, _, _, _, rfl, _⟩ := h; rfl) | (obtain ⟨_, _, _, _, _, _, _, _, rfl, _⟩ := h; rfl) | (obtain ⟨_, _, _, _, _, _, _, _, _, rfl, _⟩ := h; rfl) | (obtain ⟨_, _, _, _, _, _, _, _, _, _, rfl, _⟩ := h; rfl) | (obtain ⟨_, _, _, _, _, _, _, _, _, _, _, rfl, _⟩ := h; rfl) | (obtain ⟨_, _, _, _, _, _, _, _, _, _, _, _, rfl, _⟩ := h; rfl)) bi_dead_ring (fun f cdv A outer s H vs Q E hr hsp => ?_)
  have hu := hu_of hr
  have hu64 := hr.units
  have hu2 := hu2_of hr
  have hu80 := hu80_of hr
  have nd := sc_dead_ring.nd
  refine ⟨_, (pss_cons (ps_setLc (i := 1) (own := [("name", 2)]) rfl nd rfl rfl (sw_true rfl rfl rfl (by decide +kernel)) (pit (K := K) rfl (pe_c (c_names_of T) hr (by decide) rfl (pa_cons (pv 0) pa_nil))) (blkOk_by (own := [("name", 2)]) (N := n_dead_ring) (sc := defScope s_dead_ring) (by decide +kernel)) (fun _ _ _ _ _ => (pg_name (i := 2) nd rfl (by first | exact Or.inl rfl | exact Or.inr rfl))) (fun _ _ _ _ _ => pts_nil) (fun _ _ _ _ _ => (pe_c (c_least_back T) hr (by decide) rfl (pa_cons (pv 0) (pa_cons (pv 2) pa_nil)))))
    (pss_cons (ps_setLc (i := 3) (own := [("one", 4)]) rfl nd rfl rfl (sw_true rfl rfl rfl (by decide +kernel)) (pil (K := K) rfl (pv 1)) (blkOk_by (own := [("one", 4)]) (N := n_dead_ring) (sc := defScope s_dead_ring) (by decide +kernel)) (fun _ _ _ _ _ => (pg_name (i := 4) nd rfl (by first | exact Or.inl rfl | exact Or.inr rfl))) (fun _ _ _ _ _ => (pts_one (pt_cmp (pc_notN (pv 4))))) (fun _ _ _ _ _ => (pv 4)))
    (pss_one (ps_ret (pe_ifExp (pt_cmpR (op_neLd (K := K) rfl hu64) (pv 3) (pe_lst pa_nil) (nomark _)) (pe_ix (ixt (K := K) rfl) pe_never pe_int (fun _ _ => rfl)) pe_non))))), ?_⟩
  obtain ⟨v, h, r, rfl, tv, ok, rk, q⟩ := hsp
  have hnl : h.names.length = h.ms.length := by rw [Hall.names, List.length_map]
  have n4 := ok.n4
  refine ⟨_, rfl, _, h, rfl, tv, by omega, fun v1 H1 s1 t1 => ?_⟩
  obtain ⟨a1, xs1, rfl, h1, tx⟩ := t1.tup_inv
  refine ⟨_, rfl, ⟨_, SqT.of h1⟩, fun D hD => ?_⟩
  refine lc_lst h.names (walk_tupL (K := K) tx.lenm) hD (fun H s => SqT.of (s _ _ h1)) (fun _ => true) (fun _ => .none) (by omega) (fun i y x H2 H' hi s hy N R n r' => ?_) (fun H2 ys s2 e2 t2 => ?_)
  · obtain ⟨rfl, hx⟩ := hy
    obtain ⟨v2, e1, e2⟩ := (tx.m s.tk).at hi
    rw [e1] at hx
    cases hx
    cases e2
    exact ⟨rfl, yesT ⟨_, rfl, _, rfl, _, y, h, r, rfl, tv.m (s1.trans s).tk, ok, rk, List.mem_of_getElem? hi, fun H3 s3 => r' _ _ s3 rfl .non⟩⟩
  · rw [flt_true] at t2
    refine ⟨_, rfl, _, rfl, ⟨_, SqL.of e2⟩, fun D2 hD2 => ?_⟩
    refine lc_lst h.names (walk_listL (K := K) t2.lenm) hD2 (fun H s => SqL.of (s _ _ e2)) (fun _ => false) (fun _ => .none) (by omega) (fun i y x H2 H' hi s hy N R n r' => ?_) (fun H3 zs s3 e3 t3 => ?_)
    · obtain ⟨rfl, hx⟩ := hy
      have := TvAll.nons t2 _ _ hx
      subst this
      exact ⟨rfl, _, rfl, _, rfl, iteF (n _ (Same.refl _) rfl)⟩
    · have e0 : h.names.filter (fun _ => false) = [] := List.filter_eq_nil_iff.mpr (by simp)
      rw [e0] at t3
      cases t3
      refine ⟨_, rfl, by show 0 ≤ sizeLine; decide, fun p hp => ⟨.list [], .list [], .lst (SqL.of ((Same.new hp) _ _ e3)) .nil, .lst (SqL.of upd_same) .nil, Sm.shaped (k := 2) (sm_list (k := 1) (by simp)) (by decide), Sm.shaped (k := 2) (sm_list (k := 1) (by simp)) (by decide), _, rfl, iteF (q _ (((s1.trans s2).trans s3).trans (Same.new hp)))⟩⟩
/-- heights as a dict -/
def hK (ns : List Str) (f : Str → Nat) : List (Key × V) := ns.map fun n => (Sum.inr n, .int (f n : Int))
def sp_rise : Sp := fun vs H Q _ => ∃ (v : V) (h : Hall) (r : Str → Nat), vs = [v] ∧ Tv H v h.py ∧ h.Ok ∧ Ranked h r ∧ ∀ p H', Same H H' → H p = none → H' p = some (.dK (hK h.names r)) → Q (.ref p) H'
theorem c_rise (T : Txt K mg) : Cal P w K mg base 6 "rise" sp_rise [] := by
  refine cal_of T.d_rise sc_rise (fun vs H Q E h => by first | (obtain ⟨_, rfl, _⟩ := h; rfl) | (obtain ⟨_, _, rfl, _⟩ := h; rfl) | (obtain ⟨_, _, _, rfl, _⟩ := h; rfl) | (obtain ⟨_, _, _, _, rfl, _⟩ := h; rfl) | (obtain ⟨_, _, _, _, _, rfl, _⟩ := h; rfl) | (obtain ⟨_, _, _, _, _, _, rfl, _⟩ := h; rfl) | (obtain ⟨_, _, _, _, _, _, _, rfl, _⟩ := h; rfl) | (obtain ⟨_, _, _, _, _, _, _, _, rfl, _⟩ := h; rfl) | (obtain ⟨_, _, _, _, _, _, _, _, _, rfl, _⟩ := h; rfl) | (obtain ⟨_, _, _, _, _, _, _, _, _, _, rfl, _⟩ := h; rfl) | (obtain ⟨_, _, _, _, _, _, _, _, _, _, _, rfl, _⟩ := h; rfl) | (obtain ⟨_, _, _, _, _, _, _, _, _, _, _, _, rfl, _⟩ := h; rfl)) bi_rise (fun f cdv A outer s H vs Q E hr hsp => ?_)
  have hu := hu_of hr
  have hu64 := hr.units
  have hu2 := hu2_of hr
  have hu80 := hu80_of hr
  have nd := sc_rise.nd
  refine ⟨_, (pss_cons (ps_set (i := 1) nd rfl (by first | exact Or.inl rfl | exact Or.inr rfl) (pe_c (c_dead_ring T) hr (by decide) rfl (pa_cons (pv 0) pa_nil)))
    (pss_cons (ps_if (pt_cmp (pc_notN (pv 1))) (pss_one ps_never) pss_nil)
    (pss_cons (ps_setDc (i := 2) (own := [("name", 3)]) rfl nd rfl rfl (sw_trueD rfl rfl rfl (by decide +kernel)) (pit (K := K) rfl (pe_c (c_names_of T) hr (by decide) rfl (pa_cons (pv 0) pa_nil))) (blkOk_by (own := [("name", 3)]) (N := n_rise) (sc := defScope s_rise) (by decide +kernel)) (fun _ _ _ _ _ => (pg_name (i := 3) nd rfl (by first | exact Or.inl rfl | exact Or.inr rfl))) (fun _ _ _ _ _ => pts_nil) (fun _ _ _ _ _ => (pv 3)) (fun _ _ _ _ _ => pe_int))
    (pss_cons (ps_for PassesOwn.never rfl (pi_range1 (by rfl) T.b_range (pa_cons (pe_callB call_lenD (by rfl) T.b_len (by decide +kernel) (pa_cons (pv 2) pa_nil)) pa_nil)) (pg_name (i := 4) nd rfl (by first | exact Or.inl rfl | exact Or.inr rfl)) (pss_one (ps_for PassesOwn.never rfl (pil (K := K) rfl (pe_c (c_still_arcs T) hr (by decide) rfl (pa_cons (pv 0) pa_nil))) (pg_name (i := 5) nd rfl (by first | exact Or.inl rfl | exact Or.inr rfl)) (pss_cons (ps_set (i := 6) nd rfl (by first | exact Or.inl rfl | exact Or.inr rfl) (pe_c (c_end_of T) hr (by decide) rfl (pa_cons (pv 0) (pa_cons (pv 5) pa_nil))))
    (pss_one (ps_dput hu (pv 2) (pv 6) (pe_callB (call_max2 rfl) (by rfl) T.b_max (by decide +kernel) (pa_cons (pe_dget hu (pv 2) (pv 6) (fun _ _ => rfl)) (pa_cons (pe_op op_add (pe_dget hu (pv 2) (pe_c (c_start_of T) hr (by decide) rfl (pa_cons (pv 0) (pa_cons (pv 5) pa_nil))) (fun _ _ => rfl)) pe_int) pa_nil))) rfl))))))
    (pss_one (ps_ret (pv 2))))))), ?_⟩
  obtain ⟨v, h, r, rfl, tv, ok, rk, q⟩ := hsp
  have hnl : h.names.length = h.ms.length := by rw [Hall.names, List.length_map]
  have n4 := ok.n4
  refine ⟨_, rfl, _, h, r, rfl, tv, ok, rk, fun H0 s0 => ⟨_, rfl, _, rfl, iteF ?_⟩⟩
  have tv0 := tv.m s0.tk
  refine ⟨_, rfl, _, h, rfl, tv0, by omega, fun v1 H1 s1 t1 => ?_⟩
  obtain ⟨a1, xs1, rfl, h1, tx⟩ := t1.tup_inv
  refine ⟨_, rfl, ⟨_, SqT.of h1⟩, fun D hD => ?_⟩
  have s01 := s0.trans s1
  refine dc_gen (ns := h.names) (walk_tupL (K := K) tx.lenm) hD ok.nd (fun H s => SqT.of (s _ _ h1)) (fun _ v _ => v = .int 0) (fun _ _ _ _ _ z => z) (by omega) (fun i y x H2 H' hi s hy N R r' => ?_) (fun H2 kvs s2 e2 p2 => ?_)
  · obtain ⟨rfl, hx⟩ := hy
    obtain ⟨v2, e1, e2⟩ := (tx.m s.tk).at hi
    rw [e1] at hx
    cases hx
    cases e2
    exact ⟨rfl, yesG ⟨_, rfl, r' _ _ (Same.refl _) rfl⟩⟩
  · have ek : kvs = hK h.names fun _ => 0 := by
      have aux : ∀ {ns : List Str} {kvs : List (Key × V)}, Paired (fun n (p : Key × V) => p.1 = Sum.inr n ∧ p.2 = V.int 0) ns kvs → kvs = hK ns fun _ => 0 := by
        intro ns kvs p
        induction p with
        | nil => rfl
        | @cons n q ns kvs h _ ih =>
          obtain ⟨k, v⟩ := q
          obtain ⟨e1, e2⟩ := h
          show (k, v) :: kvs = (Sum.inr n, V.int ((0 : Nat) : Int)) :: hK ns fun _ => 0
          rw [ih]
          simp only at e1 e2
          rw [e1, e2]
          rfl
      exact aux p2
    subst ek
    have sA : Same H H2 := s01.trans s2
    have hDH : H D = none := s01.free hD
    have mlen : ∀ f, (hK h.names f).length = h.ms.length := fun f => by rw [hK, List.length_map, hnl]
    refine ⟨_, rfl, D, _, rfl, e2, _, rfl, by rw [mlen]; omega, by rw [mlen]; omega, ?_⟩
    have en : ((hK h.names fun _ => 0).length : Int).toNat = h.ms.length := by rw [mlen]; rfl
    rw [en]
    refine for_it (walk_range (lo := 0) (n := h.ms.length)) (fun t σ H' => ∃ (f : Str → Nat) (o3 o4 o5 o6 : Option V), σ = [some v, some .non, some (.ref D), o3, o4, o5, o6] ∧ Same H H' ∧ H' D = some (.dK (hK h.names f)) ∧ (∀ n ∈ h.names, f n ≤ r n) ∧ (∀ n ∈ h.names, r n ≤ t → f n = r n))
      ⟨fun _ => 0, _, _, _, _, rfl, sA, e2, fun _ _ => Nat.zero_le _, fun n _ hn => (Nat.le_zero.mp hn).symm⟩ (fun _ _ _ _ _ => trivial) (fun t x σ H3 H4 hi p hy => ?_) (fun σ H3 p => ?_)
    · obtain ⟨f, o3, o4, o5, o6, rfl, s3, e3, fl, fx⟩ := p
      obtain ⟨rfl, rfl⟩ := hy
      refine ⟨_, rfl, _, h, rfl, tv.m s3.tk, ok, fun pS H5 ys s5 hpS eS tS => ⟨_, rfl, ⟨_, SqL.of eS⟩, ?_⟩⟩
      have ne1 : pS ≠ D := fun z => by subst z; rw [hpS] at e3; cases e3
      refine for_it (walk_listL (K := K) tS.lenm) (fun i σ H' => ∃ (g : Str → Nat) (o3 o4 o5 o6 : Option V), σ = [some v, some .non, some (.ref D), o3, o4, o5, o6] ∧ Same H H' ∧ TK H5 H' ∧ H' pS = some (.lst ys) ∧ H' D = some (.dK (hK h.names g)) ∧ (∀ n ∈ h.names, g n ≤ r n) ∧ (∀ n ∈ h.names, r n ≤ t → g n = r n) ∧
          ∀ n ∈ h.names, ∀ j x, j < i → h.still[j]? = some x → h.en x = n → r (h.st x) = t → r n = t + 1 → g n = r n)
        ⟨f, _, _, _, _, rfl, s3.trans s5, TK.refl _, eS, s5 _ _ e3, fl, fx, fun n _ j x hj => absurd hj (Nat.not_lt_zero _)⟩ (fun i σ H' _ p => ?_) (fun i xv σ H6 H7 hi p hy => ?_) (fun σ H6 p => ?_)
      · obtain ⟨_, _, _, _, _, _, _, _, e, _⟩ := p
        exact SqL.of e
      · obtain ⟨g, o3, o4, o5, o6, rfl, s6, tk6, eS6, e6, gl, gx, gs⟩ := p
        obtain ⟨rfl, hx⟩ := hy
        have ei : h.still[i]? = some h.still[i] := List.getElem?_eq_getElem hi
        obtain ⟨v2, e1, e2'⟩ := tS.at ei
        rw [e1] at hx
        cases hx
        generalize h.still[i] = y at ei e2'
        have ya := still_mem.mp (List.mem_of_getElem? ei)
        have yS := Hall.has_of ya.1
        have yn := ok.stn ya.1
        have ey := e2'.m tk6
        have tvq := tv.m s6.tk
        have ve : valV (hK h.names g) (Sum.inr (h.en y)) = some (.int (g (h.en y) : Int)) := valV_map (g := fun n => .int (g n : Int)) yn.2
        have vs : valV (hK h.names g) (Sum.inr (h.st y)) = some (.int (g (h.st y) : Int)) := valV_map (g := fun n => .int (g n : Int)) yn.1
        refine ⟨_, rfl, _, rfl, _, _, h, y, rfl, tvq, ey, yS, ?_⟩
        refine ⟨_, rfl, _, rfl, _, _, rfl, by rw [← ve]; exact DGet.k (k := Sum.inr (h.en y)) e6, _, rfl, _, rfl, _, rfl, _, _, h, y, rfl, tvq, ey, yS, _, _, rfl, by rw [← vs]; exact DGet.k (k := Sum.inr (h.st y)) e6, _, _, rfl, rfl, _, _, rfl, ?_⟩
        have em : (if ((g (h.st y) : Int) + 1) > (g (h.en y) : Int) then ((g (h.st y) : Int) + 1) else (g (h.en y) : Int)) = ((if g (h.st y) + 1 > g (h.en y) then g (h.st y) + 1 else g (h.en y) : Nat) : Int) := by
          split <;> split <;> omega
        rw [em]
        generalize em2 : (if g (h.st y) + 1 > g (h.en y) then g (h.st y) + 1 else g (h.en y)) = x
        refine ⟨_, rfl, _, rfl, _, _, rfl, DPut.k (k := Sum.inr (h.en y)) e6 (by rw [mlen]; exact smallL (by omega)), ?_⟩
        have ep : putK (hK h.names g) (Sum.inr (h.en y)) (.int (x : Int)) = hK h.names fun n => if n = h.en y then x else g n := by
          rw [hK, putK_map (g := fun n => .int (g n : Int)) yn.2, hK]
          apply List.map_congr_left
          intro n _
          by_cases c : n = h.en y <;> simp [c]
        rw [ep]
        have up := rk.up y ya.1 ya.2
        have xle : x ≤ r (h.en y) := by
          have := gl _ yn.1
          have := gl _ yn.2
          rw [← em2]
          split <;> omega
        have xge : g (h.en y) ≤ x := by
          rw [← em2]
          split <;> omega
        have nD : H D = none := hDH
        refine ⟨fun n => if n = h.en y then x else g n, _, _, _, _, rfl, s6.mut nD, tk6.trans (NK.put e6).tk, ?_, upd_same, fun n hn => ?_, fun n hn hr => ?_, fun n hn j z hj ez en' es er => ?_⟩
        · rw [upd_ne ne1]
          exact eS6
        · show (if n = h.en y then x else g n) ≤ r n
          split
          · rename_i c
            rw [c]
            exact xle
          · exact gl n hn
        · show (if n = h.en y then x else g n) = r n
          split
          · rename_i c
            subst c
            have := gx _ hn hr
            omega
          · exact gx n hn hr
        · show (if n = h.en y then x else g n) = r n
          by_cases jc : j = i
          · subst jc
            rw [ei] at ez
            cases ez
            subst en'
            rw [if_pos rfl]
            have := gx _ yn.1 (by omega)
            have : g (h.st y) + 1 ≤ x := by
              rw [← em2]
              split <;> omega
            omega
          · have := gs n hn j z (by omega) ez en' es er
            split
            · rename_i c
              subst c
              omega
            · exact this
      · obtain ⟨g, o3, o4, o5, o6, rfl, s6, tk6, eS6, e6, gl, gx, gs⟩ := p
        refine ⟨g, _, _, _, _, rfl, s6, e6, gl, fun n hn hr => ?_⟩
        by_cases c : r n ≤ t
        · exact gx n hn c
        · obtain ⟨x, hx, hg, he, hs⟩ := rk.pre n hn (by omega)
          obtain ⟨j, hj⟩ := List.mem_iff_getElem?.mp (still_mem.mpr ⟨hx, hg⟩)
          exact gs n hn j x (List.getElem?_eq_some_iff.mp hj).1 hj he (by omega) (by omega)
    · obtain ⟨f, o3, o4, o5, o6, rfl, s3, e3, fl, fx⟩ := p
      refine ⟨_, rfl, q D _ s3 hDH ?_⟩
      rw [e3]
      have : hK h.names f = hK h.names r := List.map_congr_left fun n hn => by rw [fx n hn (Nat.le_of_lt (rk.lt n hn))]
      rw [this]
end
end K41
/-! work, links, what a link tells -/
namespace K41
open PySem PySem.Spec PyProof.Rows L2
open C8 (Cal pe_c)
/-- stops: what is written under (name, piece, purse) -/
abbrev StT := List (List Key × Int)
def stK (st : StT) : List (List Key × V) := st.map fun e => (e.1, .int e.2)
def lkT (st : StT) (k : List Key) : Option Int := (st.find? fun e => e.1 = k).map (·.2)
theorem valV_stK (k : List Key) : ∀ st : StT, valV (stK st) k = (lkT st k).map V.int
  | [] => rfl
  | e :: st => by
    by_cases c : e.1 = k
    · have h2 : lkT (e :: st) k = some e.2 := by simp [lkT, c]
      rw [h2, stK, List.map_cons, valV_pos c]
      rfl
    · have h2 : lkT (e :: st) k = lkT st k := by simp [lkT, c]
      rw [h2, stK, List.map_cons, valV_neg c]
      exact valV_stK k st
def stV (st : StT) (n : Str) (p i : Nat) : Int := (lkT st [Sum.inr n, Sum.inl (p : Int), Sum.inl (i : Int)]).getD 0
def flV (st : StT) (n : Str) (p : Nat) : Int := (lkT st [Sum.inr n, Sum.inl (p : Int)]).getD 0
def Hall.mach (h : Hall) (n : Str) : Mach := (h.ms.find? fun m => m.nm = n).getD ⟨n, 0, []⟩
def Hall.W (h : Hall) (st : StT) (n : Str) (p : Nat) : Int := (h.mach n).tm + ((List.range (h.mach n).ps.length).map fun i => stV st n p i).sum
theorem find_mach {h : Hall} {n : Str} (hn : n ∈ h.names) : h.ms.find? (fun m => m.nm = n) = some (h.mach n) := by
  obtain ⟨m, hm, e⟩ := List.mem_map.mp hn
  have : (h.ms.find? fun m => m.nm = n).isSome = true := by
    rw [List.find?_isSome]
    exact ⟨m, hm, by simpa using e⟩
  obtain ⟨x, hx⟩ := Option.isSome_iff_exists.mp this
  rw [Hall.mach, hx]
  rfl
theorem mach_mem {h : Hall} {n : Str} (hn : n ∈ h.names) : h.mach n ∈ h.ms ∧ (h.mach n).nm = n := by
  have e := find_mach hn
  exact ⟨List.mem_of_find?_eq_some e, by simpa using List.find?_some e⟩
theorem walk_rangeL {lo : Int} {n m : Nat} (e : n = m) : Walk (Itr lo n) (List.range m).length (fun _ => True) (YFn fun i => .int (lo + i)) := by
  subst e
  rw [List.length_range]
  exact walk_range
theorem TvAll.bls_inv {H : Hp} : ∀ {ns : List Bool} {vs : List V}, TvAll H vs (ns.map PyData.bool) → vs = ns.map V.bl
  | [], _, h => by cases h; rfl
  | n :: ns, _, h => by
    cases h with
    | cons h1 h2 =>
      rw [Tv.bl_inv h1, TvAll.bls_inv h2]
      rfl
theorem TvAll.ints_of {H : Hp} {α : Type} {f : α → Int} {l : List α} {vs : List V} (t : TvAll H vs (l.map fun x => .int (f x))) : vs = (l.map f).map V.int := by
  have e : (l.map fun x => PyData.int (f x)) = (l.map f).map PyData.int := by rw [List.map_map]; rfl
  rw [e] at t
  exact t.ints_inv
theorem TvAll.bls_of {H : Hp} {α : Type} {f : α → Bool} {l : List α} {vs : List V} (t : TvAll H vs (l.map fun x => .bool (f x))) : vs = (l.map f).map V.bl := by
  have e : (l.map fun x => PyData.bool (f x)) = (l.map f).map PyData.bool := by rw [List.map_map]; rfl
  rw [e] at t
  exact t.bls_inv
def linkD (h : Hall) (x : Arc) : PyData := .tuple [.str (h.st x), .str (h.en x), .int (h.gr x : Int), .bool x.ends]
theorem link_inv {H : Hp} {v : V} {h : Hall} {x : Arc} (t : Tv H v (linkD h x)) : ∃ a, v = .ref a ∧ H a = some (.tup [.str (h.st x), .str (h.en x), .int (h.gr x : Int), .bl x.ends]) := by
  obtain ⟨a, xs, rfl, ha, t⟩ := Tv.tup_inv t
  cases t with
  | cons t1 t =>
    cases t with
    | cons t2 t =>
      cases t with
      | cons t3 t =>
        cases t with
        | cons t4 t =>
          cases t
          cases t1
          cases t2
          cases t3
          cases t4
          exact ⟨a, rfl, ha⟩
def tells (h : Hall) (st : StT) (R : Str → Nat → Int) (x : Arc) (p : Nat) : Int := if x.ends = true then R (h.st x) (p - h.gr x) + h.W st (h.st x) (p - h.gr x) else R (h.st x) (p - h.gr x)
section
variable {P : Program} {w : World} {K : PySem.W.Frag} {mg : Str → Option Value} {base : Heap}
def sp_ticks_at : Sp := fun vs H Q _ => ∃ (v : V) (d : Addr) (nm : Str) (p : Nat) (h : Hall) (st : StT), vs = [v, .ref d, .str nm, .int (p : Int)] ∧ Tv H v h.py ∧ h.Ok ∧ nm ∈ h.names ∧ H d = some (.dT (stK st)) ∧ ∀ H', Same H H' → Q (.int (h.W st nm p)) H'
theorem c_ticks_at (T : Txt K mg) : Cal P w K mg base 3 "ticks_at" sp_ticks_at [] := by
  refine cal_of T.d_ticks_at sc_ticks_at (fun vs H Q E h => by first | (obtain ⟨_, rfl, _⟩ := h; rfl) | (obtain ⟨_, _, rfl, _⟩ := h; rfl) | (obtain ⟨_, _, _, rfl, _⟩ := h; rfl) | (obtain ⟨_, _, _, _, rfl, _⟩ := h; rfl) | (obtain ⟨_, _, _, _, _, rfl, _⟩ := h; rfl) | (obtain ⟨_, _, _, _, _, _, rfl, _⟩ := h; rfl) | (obtain ⟨_, _, _, _, _, _, _, rfl, _⟩ := h; rfl) | (obtain ⟨_, _, _, _, _, _, _, _, rfl, _⟩ := h; rfl) | (obtain ⟨_, _, _, _, _, _, _, _, _, rfl, _⟩ := h; rfl) | (obtain ⟨_, _, _, _, _, _, _, _, _, _, rfl, _⟩ := h; rfl) | (obtain ⟨_, _, _, _, _, _, _, _, _, _, _, rfl, _⟩ := h; rfl) | (obtain ⟨_, _, _, _, _, _, _, _, _, _, _, _, rfl, _⟩ := h; rfl)) bi_ticks_at (fun f cdv A outer s H vs Q E hr hsp => ?_)
  have hu := hu_of hr
  have hu64 := hr.units
  have hu2 := hu2_of hr
  have hu80 := hu80_of hr
  have nd := sc_ticks_at.nd
  refine ⟨_, (pss_cons (ps_setLc (i := 4) (own := [("index", 5)]) rfl nd rfl rfl (sw_true rfl rfl rfl (by decide +kernel)) (pi_range1 (by rfl) T.b_range (pa_cons (pe_callB (cr_len (K := K) rfl) (by rfl) T.b_len (by decide +kernel) (pa_cons (pe_c (c_purses_of T) hr (by decide) rfl (pa_cons (pv 0) (pa_cons (pv 2) pa_nil))) pa_nil)) pa_nil)) (blkOk_by (own := [("index", 5)]) (N := n_ticks_at) (sc := defScope s_ticks_at) (by decide +kernel)) (fun _ _ _ _ _ => (pg_name (i := 5) nd rfl (by first | exact Or.inl rfl | exact Or.inr rfl))) (fun _ _ _ _ _ => pts_nil) (fun _ _ _ _ _ => (pe_dget2 hu (pv 1) (pe_tup (pa_cons (pv 2) (pa_cons (pv 3) (pa_cons (pv 5) pa_nil)))) pe_int ⟨by rfl, by rfl, by rfl, by rfl⟩)))
    (pss_one (ps_ret (pe_op op_add (pe_c (c_time_of T) hr (by decide) rfl (pa_cons (pv 0) (pa_cons (pv 2) pa_nil))) (pe_callB (cr_sumK (K := K) rfl) (by rfl) T.b_sum (by decide +kernel) (pa_cons (pv 4) pa_nil)))))), ?_⟩
  obtain ⟨v, d, nm, p, h, st, rfl, tv, ok, hn, hd, q⟩ := hsp
  have hf := find_mach hn
  have mm := mach_mem hn
  have sm := ok.small _ mm.1
  refine ⟨_, rfl, _, rfl, _, nm, h, h.mach nm, rfl, tv, hf, fun v1 t1 => ?_⟩
  obtain ⟨ap, xs, rfl, hap, tx⟩ := t1.tup_inv
  refine ⟨_, xs, rfl, .inr (SqT.of hap), _, rfl, by have := tx.lenm; omega, by have := tx.lenm; omega, fun D hD => ?_⟩
  have lx := tx.lenm
  refine lc_lst (List.range (h.mach nm).ps.length) (walk_rangeL (lo := 0) (by rw [← lx]; rfl)) hD (fun _ _ => trivial) (fun _ => true) (fun i => .int (stV st nm p i)) (by rw [List.length_range]; omega) (fun i y x H2 H' hi s hy N R n r' => ?_) (fun H2 ys s2 e2 t2 => ?_)
  · obtain ⟨rfl, rfl⟩ := hy
    have iy : y = i := by
      have := (List.getElem?_eq_some_iff.mp hi).2
      simpa using this.symm
    subst iy
    refine ⟨rfl, yesT ⟨_, rfl, _, rfl, .inr ⟨_, .inl (s _ _ hd)⟩, _, rfl, _, rfl, _, rfl, by show 3 ≤ sizeLine; decide, fun p1 hp1 => ⟨_, DGet.t (k := [Sum.inr nm, Sum.inl (p : Int), Sum.inl (0 + (y : Int))]) ((Same.new hp1) _ _ (s _ _ hd)) upd_same, r' _ _ (Same.new hp1) rfl ?_⟩⟩⟩
    rw [valV_stK, Int.zero_add]
    unfold stV
    cases lkT st [Sum.inr nm, Sum.inl (p : Int), Sum.inl (y : Int)] with
    | none => exact .int 0
    | some z => exact .int z
  · rw [flt_true] at t2
    have ey := TvAll.ints_of t2
    subst ey
    exact ⟨_, rfl, _, rfl, _, nm, h, h.mach nm, rfl, tv.m s2.tk, hf, _, rfl, _, _, rfl, SqL.of e2, _, _, rfl, rfl, q _ s2⟩
def sp_links_of : Sp := fun vs H Q _ => ∃ (v : V) (h : Hall), vs = [v] ∧ Tv H v h.py ∧ h.Ok ∧ ∀ p H' ys, Same H H' → H p = none → H' p = some (.lst ys) → TvAll H' ys (h.arcs.map (linkD h)) → Q (.ref p) H'
theorem c_links_of (T : Txt K mg) : Cal P w K mg base 3 "links_of" sp_links_of [] := by
  refine cal_of T.d_links_of sc_links_of (fun vs H Q E h => by first | (obtain ⟨_, rfl, _⟩ := h; rfl) | (obtain ⟨_, _, rfl, _⟩ := h; rfl) | (obtain ⟨_, _, _, rfl, _⟩ := h; rfl) | (obtain ⟨_, _, _, _, rfl, _⟩ := h; rfl) | (obtain ⟨_, _, _, _, _, rfl, _⟩ := h; rfl) | (obtain ⟨_, _, _, _, _, _, rfl, _⟩ := h; rfl) | (obtain ⟨_, _, _, _, _, _, _, rfl, _⟩ := h; rfl) | (obtain ⟨_, _, _, _, _, _, _, _, rfl, _⟩ := h; rfl) | (obtain ⟨_, _, _, _, _, _, _, _, _, rfl, _⟩ := h; rfl) | (obtain ⟨_, _, _, _, _, _, _, _, _, _, rfl, _⟩ := h; rfl) | (obtain ⟨_, _, _, _, _, _, _, _, _, _, _, rfl, _⟩ := h; rfl) | (obtain ⟨_, _, _, _, _, _, _, _, _, _, _, _, rfl, _⟩ := h; rfl)) bi_links_of (fun f cdv A outer s H vs Q E hr hsp => ?_)
  have hu := hu_of hr
  have hu64 := hr.units
  have hu2 := hu2_of hr
  have hu80 := hu80_of hr
  have nd := sc_links_of.nd
  refine ⟨_, (pss_one (ps_ret (pe_lc (own := [("arc", 1)]) rfl nd (pit (K := K) rfl (pe_c (c_arcs_of T) hr (by decide) rfl (pa_cons (pv 0) pa_nil))) (blkOk_by (own := [("arc", 1)]) (N := n_links_of) (sc := defScope s_links_of) (by decide +kernel)) (fun _ _ _ _ _ => (pg_name (i := 1) nd rfl (by first | exact Or.inl rfl | exact Or.inr rfl))) (fun _ _ _ _ _ => pts_nil) (fun _ _ _ _ _ => (pe_tup (pa_cons (pe_c (c_start_of T) hr (by decide) rfl (pa_cons (pv 0) (pa_cons (pv 1) pa_nil))) (pa_cons (pe_c (c_end_of T) hr (by decide) rfl (pa_cons (pv 0) (pa_cons (pv 1) pa_nil))) (pa_cons (pe_c (c_growth_of T) hr (by decide) rfl (pa_cons (pv 0) (pa_cons (pv 1) pa_nil))) (pa_cons (pe_c (c_does_end T) hr (by decide) rfl (pa_cons (pv 1) pa_nil)) pa_nil))))))))), ?_⟩
  obtain ⟨v, h, rfl, tv, ok, q⟩ := hsp
  refine ⟨_, rfl, _, h, rfl, tv, by have := ok.n4; omega, by have := ok.b5; omega, fun v1 H1 s1 t1 => ?_⟩
  obtain ⟨a1, xs1, rfl, h1, tx⟩ := t1.tup_inv
  refine ⟨_, rfl, ⟨_, SqT.of h1⟩, fun D hD => ?_⟩
  refine lc_lst h.arcs (walk_tupL (K := K) tx.lenm) hD (fun H s => SqT.of (s _ _ h1)) (fun x => true) (linkD h) (by have := arcs_len ok; omega) (fun i y x H2 H' hi s hy N R n r => ?_) (fun H2 ys s2 e2 t2 => q D _ ys (s1.trans s2) (s1.free hD) e2 (by rw [flt_true] at t2; exact t2))
  obtain ⟨rfl, hx⟩ := hy
  obtain ⟨v2, e1, e2⟩ := (tx.m s.tk).at hi
  rw [e1] at hx
  cases hx
  have tv2 := tv.m (s1.trans s).tk
  have hy := Hall.has_of (List.mem_of_getElem? hi)
  exact ⟨rfl, yesT ⟨_, rfl, _, rfl, _, _, h, y, rfl, tv2, e2, hy, _, rfl, _, rfl, _, _, h, y, rfl, tv2, e2, hy, _, rfl, _, rfl, _, _, h, y, rfl, tv2, e2, hy, ok.fr, _, rfl, _, y, rfl, e2, by show 4 ≤ sizeLine; decide, fun p hp => r _ _ (Same.new hp) rfl (.tup upd_same (.cons (.str _) (.cons (.str _) (.cons (.int _) (.cons (.bl _) .nil)))))⟩⟩
def sp_told_by : Sp := fun vs H Q _ => ∃ (v lk : V) (d rd rr : Addr) (p : Nat) (h : Hall) (st : StT) (x : Arc) (kvs : List (Key × V)) (xs : List V) (R : Str → Nat → Int), vs = [v, .ref d, .ref rd, lk, .int (p : Int)] ∧ Tv H v h.py ∧ h.Ok ∧ x ∈ h.arcs ∧ Tv H lk (linkD h x) ∧ H d = some (.dT (stK st)) ∧
  H rd = some (.dK kvs) ∧ valV kvs (Sum.inr (h.st x)) = some (.ref rr) ∧ (H rr = some (.lst xs) ∨ H rr = some (.tup xs)) ∧ h.gr x ≤ p ∧ xs[p - h.gr x]? = some (.int (R (h.st x) (p - h.gr x))) ∧ ∀ H', Same H H' → Q (.int (tells h st R x p)) H'
theorem c_told_by (T : Txt K mg) : Cal P w K mg base 4 "told_by" sp_told_by [] := by
  refine cal_of T.d_told_by sc_told_by (fun vs H Q E h => by first | (obtain ⟨_, rfl, _⟩ := h; rfl) | (obtain ⟨_, _, rfl, _⟩ := h; rfl) | (obtain ⟨_, _, _, rfl, _⟩ := h; rfl) | (obtain ⟨_, _, _, _, rfl, _⟩ := h; rfl) | (obtain ⟨_, _, _, _, _, rfl, _⟩ := h; rfl) | (obtain ⟨_, _, _, _, _, _, rfl, _⟩ := h; rfl) | (obtain ⟨_, _, _, _, _, _, _, rfl, _⟩ := h; rfl) | (obtain ⟨_, _, _, _, _, _, _, _, rfl, _⟩ := h; rfl) | (obtain ⟨_, _, _, _, _, _, _, _, _, rfl, _⟩ := h; rfl) | (obtain ⟨_, _, _, _, _, _, _, _, _, _, rfl, _⟩ := h; rfl) | (obtain ⟨_, _, _, _, _, _, _, _, _, _, _, rfl, _⟩ := h; rfl) | (obtain ⟨_, _, _, _, _, _, _, _, _, _, _, _, rfl, _⟩ := h; rfl)) bi_told_by (fun f cdv A outer s H vs Q E hr hsp => ?_)
  have hu := hu_of hr
  have hu64 := hr.units
  have hu2 := hu2_of hr
  have hu80 := hu80_of hr
  have nd := sc_told_by.nd
  refine ⟨_, (pss_cons (ps_asg (pv 3) (pgt (K := K) rfl (pgs_cons (pg_name (i := 5) nd rfl (by first | exact Or.inl rfl | exact Or.inr rfl)) (pgs_cons (pg_name (i := 6) nd rfl (by first | exact Or.inl rfl | exact Or.inr rfl)) (pgs_cons (pg_name (i := 7) nd rfl (by first | exact Or.inl rfl | exact Or.inr rfl)) (pgs_cons (pg_name (i := 8) nd rfl (by first | exact Or.inl rfl | exact Or.inr rfl)) pgs_nil))))))
    (pss_cons (ps_set (i := 9) nd rfl (by first | exact Or.inl rfl | exact Or.inr rfl) (pe_ix (ixq (K := K) rfl) (pe_dget hu (pv 2) (pv 5) (fun _ _ => rfl)) (pe_op op_sub (pv 4) (pv 7)) (fun _ _ => rfl)))
    (pss_one (ps_ret (pe_ifExp (pt_val (pv 8)) (pe_op op_add (pv 9) (pe_c (c_ticks_at T) hr (by decide) rfl (pa_cons (pv 0) (pa_cons (pv 1) (pa_cons (pv 5) (pa_cons (pe_op op_sub (pv 4) (pv 7)) pa_nil)))))) (pv 9)))))), ?_⟩
  obtain ⟨v, lk, d, rd, rr, p, h, st, x, kvs, xs, R, rfl, tv, ok, hx, tl, hd, hr2, ev, hq, hg, ex, q⟩ := hsp
  obtain ⟨la, rfl, hla⟩ := link_inv tl
  have ep : (p : Int) - (h.gr x : Int) = ((p - h.gr x : Nat) : Int) := by omega
  have yn := ok.stn hx
  refine ⟨_, rfl, _, _, rfl, SqT.of hla, rfl, _, _, rfl, _, _, rfl, _, _, rfl, _, _, rfl, rfl, ?_⟩
  refine ⟨_, rfl, _, rfl, _, _, rfl, by rw [← ev]; exact DGet.k (k := Sum.inr (h.st x)) hr2, _, rfl, _, rfl, _, _, rfl, rfl, ?_⟩
  dsimp only
  rw [ep]
  have go : ∀ H' (Q : VK), H' = H → Q (.int (R (h.st x) (p - h.gr x))) H' → rIx K (.ref rr) (.int ((p - h.gr x : Nat) : Int)) H' Q := fun H' Q e qq => by
    subst e
    rcases hq with hq | hq
    · exact .inl ⟨_, _, _, _, rfl, rfl, SqL.of hq, atI_nat ex, qq⟩
    · exact .inr (.inl ⟨_, _, _, _, rfl, rfl, SqT.of hq, atI_nat ex, qq⟩)
  refine go _ _ rfl ?_
  refine ⟨_, rfl, _, rfl, ?_⟩
  cases ee : x.ends with
  | true =>
    refine iteT ⟨_, rfl, _, rfl, _, rfl, _, rfl, _, rfl, _, rfl, _, _, rfl, rfl, ?_⟩
    dsimp only
    rw [ep]
    refine ⟨_, d, h.st x, p - h.gr x, h, st, rfl, tv, ok, yn.1, hd, fun H' s => ⟨_, _, rfl, rfl, ?_⟩⟩
    have := q H' s
    rw [tells, if_pos ee] at this
    exact this
  | false =>
    have := q H (Same.refl _)
    rw [tells, if_neg (by rw [ee]; exact Bool.false_ne_true)] at this
    exact iteF ⟨_, rfl, this⟩
end
end K41
/-! the plain law: the least run above floors -/
namespace K41
open PySem PySem.Spec PyProof.Rows L2
section
variable (h : Hall) (st : StT)
/-- v is the greatest of the floor and of what the arcs into n tell -/
structure Best (F R : Str → Nat → Int) (n : Str) (p : Nat) (v : Int) : Prop where
  fl : F n p ≤ v
  ge : ∀ x ∈ h.arcs, h.en x = n → h.gr x ≤ p → tells h st R x p ≤ v
  is : v = F n p ∨ ∃ x ∈ h.arcs, h.en x = n ∧ h.gr x ≤ p ∧ v = tells h st R x p
def mx (a b : Int) : Int := if b > a then b else a
theorem mx_l (a b : Int) : a ≤ mx a b := by unfold mx; split <;> omega
theorem mx_r (a b : Int) : b ≤ mx a b := by unfold mx; split <;> omega
theorem mx_is (a b : Int) : mx a b = a ∨ mx a b = b := by unfold mx; split <;> simp
/-- so far: the first ones of a list of arcs are seen -/
structure BestL (F R : Str → Nat → Int) (n : Str) (p : Nat) (seen : List Arc) (v : Int) : Prop where
  fl : F n p ≤ v
  ge : ∀ x ∈ seen, h.en x = n → h.gr x ≤ p → tells h st R x p ≤ v
  is : v = F n p ∨ ∃ x ∈ seen, h.en x = n ∧ h.gr x ≤ p ∧ v = tells h st R x p
variable {h st}
theorem Best.uniq {F R : Str → Nat → Int} {n : Str} {p : Nat} {v w : Int} (a : Best h st F R n p v) (b : Best h st F R n p w) : v = w := by
  have h1 : v ≤ w := by
    rcases a.is with e | ⟨x, hx, h1, h2, e⟩
    · rw [e]; exact b.fl
    · rw [e]; exact b.ge x hx h1 h2
  have h2 : w ≤ v := by
    rcases b.is with e | ⟨x, hx, h1, h2, e⟩
    · rw [e]; exact a.fl
    · rw [e]; exact a.ge x hx h1 h2
  omega
theorem BestL.start (F R : Str → Nat → Int) (n : Str) (p : Nat) : BestL h st F R n p [] (F n p) := ⟨Int.le_refl _, fun x hx => (by cases hx), .inl rfl⟩
theorem BestL.skip {F R : Str → Nat → Int} {n : Str} {p : Nat} {l : List Arc} {v : Int} {x : Arc} (b : BestL h st F R n p l v) (c : ¬ (h.en x = n ∧ h.gr x ≤ p)) : BestL h st F R n p (l ++ [x]) v := by
  refine ⟨b.fl, fun y hy h1 h2 => ?_, b.is.imp id fun ⟨y, hy, r⟩ => ⟨y, List.mem_append_left _ hy, r⟩⟩
  rcases List.mem_append.mp hy with hy | hy
  · exact b.ge y hy h1 h2
  · simp at hy
    subst hy
    exact absurd ⟨h1, h2⟩ c
theorem BestL.take {F R : Str → Nat → Int} {n : Str} {p : Nat} {l : List Arc} {v : Int} {x : Arc} (b : BestL h st F R n p l v) (c1 : h.en x = n) (c2 : h.gr x ≤ p) : BestL h st F R n p (l ++ [x]) (mx v (tells h st R x p)) := by
  refine ⟨Int.le_trans b.fl (mx_l _ _), fun y hy h1 h2 => ?_, ?_⟩
  · rcases List.mem_append.mp hy with hy | hy
    · exact Int.le_trans (b.ge y hy h1 h2) (mx_l _ _)
    · simp at hy
      subst hy
      exact mx_r _ _
  · rcases mx_is v (tells h st R x p) with e | e
    · rw [e]
      exact b.is.imp id fun ⟨y, hy, r⟩ => ⟨y, List.mem_append_left _ hy, r⟩
    · rw [e]
      exact .inr ⟨x, by simp, c1, c2, rfl⟩
theorem BestL.all {F R : Str → Nat → Int} {n : Str} {p : Nat} {l : List Arc} {v : Int} (b : BestL h st F R n p l v) (e : ∀ x, x ∈ h.arcs ↔ x ∈ l) : Best h st F R n p v :=
  ⟨b.fl, fun x hx => b.ge x ((e x).mp hx), b.is.imp id fun ⟨x, hx, r⟩ => ⟨x, (e x).mpr hx, r⟩⟩
/-- the fold itself -/
def stepL (h : Hall) (st : StT) (R : Str → Nat → Int) (n : Str) (p : Nat) (v : Int) (x : Arc) : Int := if h.en x = n ∧ h.gr x ≤ p then mx v (tells h st R x p) else v
theorem BestL.fold {F R : Str → Nat → Int} {n : Str} {p : Nat} : ∀ (m l : List Arc) (v : Int), BestL h st F R n p l v → BestL h st F R n p (l ++ m) (m.foldl (stepL h st R n p) v)
  | [], l, v, b => by rw [List.append_nil]; exact b
  | x :: m, l, v, b => by
    have e : l ++ x :: m = (l ++ [x]) ++ m := by simp
    rw [e, List.foldl_cons]
    refine BestL.fold m (l ++ [x]) _ ?_
    unfold stepL
    split
    · rename_i c
      exact b.take c.1 c.2
    · rename_i c
      exact b.skip c
def valL (h : Hall) (st : StT) (F R : Str → Nat → Int) (n : Str) (p : Nat) : Int := h.arcs.foldl (stepL h st R n p) (F n p)
theorem valL_best (F R : Str → Nat → Int) (n : Str) (p : Nat) : Best h st F R n p (valL h st F R n p) := by
  have := BestL.fold (h := h) (st := st) (F := F) (R := R) (n := n) (p := p) h.arcs [] _ (BestL.start F R n p)
  exact this.all fun x => by rw [List.nil_append]
theorem tells_congr {R R' : Str → Nat → Int} {x : Arc} {p : Nat} (e : R (h.st x) (p - h.gr x) = R' (h.st x) (p - h.gr x)) : tells h st R x p = tells h st R' x p := by
  unfold tells
  rw [e]
theorem Best.congr {F R R' : Str → Nat → Int} {n : Str} {p : Nat} {v : Int} (b : Best h st F R n p v) (e : ∀ x ∈ h.arcs, h.en x = n → h.gr x ≤ p → R (h.st x) (p - h.gr x) = R' (h.st x) (p - h.gr x)) : Best h st F R' n p v :=
  ⟨b.fl, fun x hx h1 h2 => by rw [← tells_congr (e x hx h1 h2)]; exact b.ge x hx h1 h2, b.is.imp id fun ⟨x, hx, h1, h2, r⟩ => ⟨x, hx, h1, h2, by rw [r, tells_congr (e x hx h1 h2)]⟩⟩
/-! ### it is there -/
def mu (r : Str → Nat) (n : Str) (p : Nat) : Nat := p * 4 + r n
theorem mu_lt {r : Str → Nat} (rk : Ranked h r) {x : Arc} {p : Nat} (hx : x ∈ h.arcs) (hg : h.gr x ≤ p) : mu r (h.st x) (p - h.gr x) < mu r (h.en x) p := by
  unfold mu
  have h1 := rk.le (h.st x)
  by_cases c : h.gr x = 0
  · have := rk.up x hx c
    rw [c]
    omega
  · omega
def Bf (h : Hall) (st : StT) (F : Str → Nat → Int) : Nat → Str → Nat → Int
  | 0 => fun _ _ => 0
  | k + 1 => fun n p => valL h st F (Bf h st F k) n p
theorem Bf_stable {r : Str → Nat} (rk : Ranked h r) (F : Str → Nat → Int) : ∀ (k j : Nat) (n : Str) (p : Nat), mu r n p < k → mu r n p < j → Bf h st F k n p = Bf h st F j n p
  | 0, _, _, _, hk, _ => absurd hk (Nat.not_lt_zero _)
  | k + 1, 0, _, _, _, hj => absurd hj (Nat.not_lt_zero _)
  | k + 1, j + 1, n, p, hk, hj => by
    have b1 := valL_best (h := h) (st := st) F (Bf h st F k) n p
    have b2 := valL_best (h := h) (st := st) F (Bf h st F j) n p
    refine Best.uniq b1 (b2.congr fun x hx h1 h2 => ?_)
    have := mu_lt rk hx h2
    rw [h1] at this
    exact (Bf_stable rk F k j _ _ (by omega) (by omega)).symm
def Bv (h : Hall) (st : StT) (F : Str → Nat → Int) (r : Str → Nat) (n : Str) (p : Nat) : Int := Bf h st F (mu r n p + 1) n p
/-- the run -/
def IsB (h : Hall) (st : StT) (F B : Str → Nat → Int) : Prop := ∀ n p, Best h st F B n p (B n p)
theorem Bv_is {r : Str → Nat} (rk : Ranked h r) (F : Str → Nat → Int) : IsB h st F (Bv h st F r) := fun n p => by
  refine (valL_best F (Bf h st F (mu r n p)) n p).congr fun x hx h1 h2 => ?_
  have := mu_lt rk hx h2
  rw [h1] at this
  exact Bf_stable rk F _ _ _ _ this (Nat.lt_succ_self _)
/-! ### what it is like -/
def KeptF (h : Hall) (st : StT) (R : Str → Nat → Int) (many : Nat) : Prop := ∀ x ∈ h.arcs, ∀ p, p < many → h.gr x ≤ p → tells h st R x p ≤ R (h.en x) p
theorem IsB.kept {F B : Str → Nat → Int} (b : IsB h st F B) (many : Nat) : KeptF h st B many := fun x hx p _ hg => (b _ p).ge x hx rfl hg
theorem tells_mono {R R' : Str → Nat → Int} {x : Arc} {p : Nat} (e : R (h.st x) (p - h.gr x) ≤ R' (h.st x) (p - h.gr x)) : tells h st R x p ≤ tells h st R' x p := by
  unfold tells
  split <;> omega
theorem IsB.mono {r : Str → Nat} (rk : Ranked h r) {F F' B B' : Str → Nat → Int} (b : IsB h st F B) (b' : IsB h st F' B') (hF : ∀ n p, F n p ≤ F' n p) : ∀ (k : Nat) (n : Str) (p : Nat), mu r n p < k → B n p ≤ B' n p
  | 0, _, _, hk => absurd hk (Nat.not_lt_zero _)
  | k + 1, n, p, hk => by
    rcases (b n p).is with e | ⟨x, hx, h1, h2, e⟩
    · rw [e]
      exact Int.le_trans (hF n p) (b' n p).fl
    · rw [e]
      have := mu_lt rk hx h2
      rw [h1] at this
      exact Int.le_trans (tells_mono (IsB.mono rk b b' hF k _ _ (by omega))) ((b' n p).ge x hx h1 h2)
theorem IsB.again {r : Str → Nat} (rk : Ranked h r) {F F' B B' : Str → Nat → Int} {many : Nat} (b : IsB h st F B) (b' : IsB h st F' B') (ns : ∀ x ∈ h.arcs, h.st x ∈ h.names) (hF : ∀ n ∈ h.names, ∀ p, p < many → F' n p = B n p) : ∀ (k : Nat) (n : Str) (p : Nat), n ∈ h.names → p < many → mu r n p < k → B' n p = B n p
  | 0, _, _, _, _, hk => absurd hk (Nat.not_lt_zero _)
  | k + 1, n, p, hn, hp, hk => by
    have ge : B n p ≤ B' n p := by
      rw [← hF n hn p hp]
      exact (b' n p).fl
    have le : B' n p ≤ B n p := by
      rcases (b' n p).is with e | ⟨x, hx, h1, h2, e⟩
      · rw [e, hF n hn p hp]
        exact Int.le_refl _
      · rw [e]
        have := mu_lt rk hx h2
        rw [h1] at this
        rw [tells_congr (IsB.again rk b b' ns hF k _ _ (ns x hx) (by omega) (by omega))]
        exact (b n p).ge x hx h1 h2
    omega
theorem IsB.nn {F B : Str → Nat → Int} (b : IsB h st F B) (hF : ∀ n p, 0 ≤ F n p) (n : Str) (p : Nat) : 0 ≤ B n p := Int.le_trans (hF n p) (b n p).fl
theorem IsB.bound {r : Str → Nat} (rk : Ranked h r) {F B : Str → Nat → Int} {M w : Int} (b : IsB h st F B) (hF : ∀ n p, F n p ≤ M) (hw0 : 0 ≤ w) (hw : ∀ n p, h.W st n p ≤ w) : ∀ (k : Nat) (n : Str) (p : Nat), mu r n p < k → B n p ≤ M + (k : Int) * w
  | 0, _, _, hk => absurd hk (Nat.not_lt_zero _)
  | k + 1, n, p, hk => by
    have ek : ((k + 1 : Nat) : Int) * w = (k : Int) * w + w := by
      rw [Int.natCast_succ, Int.add_mul, Int.one_mul]
    have kw : 0 ≤ (k : Int) * w := Int.mul_nonneg (Int.natCast_nonneg _) hw0
    rcases (b n p).is with e | ⟨x, hx, h1, h2, e⟩
    · have := hF n p
      rw [e]
      omega
    · have := mu_lt rk hx h2
      rw [h1] at this
      have ih := IsB.bound rk b hF hw0 hw k (h.st x) (p - h.gr x) (by omega)
      have := hw (h.st x) (p - h.gr x)
      rw [e]
      unfold tells
      split <;> omega
theorem KeptF.max {R R' : Str → Nat → Int} {many : Nat} (a : KeptF h st R many) (b : KeptF h st R' many) : KeptF h st (fun n p => if R' n p > R n p then R' n p else R n p) many := fun x hx p hp hg => by
  have h1 := a x hx p hp hg
  have h2 := b x hx p hp hg
  unfold tells at *
  dsimp only
  split at h1 <;> rename_i c
  · rw [if_pos c] at h2 ⊢
    split <;> split <;> omega
  · rw [if_neg c] at h2 ⊢
    split <;> split <;> omega
theorem KeptF.min {R R' : Str → Nat → Int} {many : Nat} (a : KeptF h st R many) (b : KeptF h st R' many) : KeptF h st (fun n p => if R' n p < R n p then R' n p else R n p) many := fun x hx p hp hg => by
  have h1 := a x hx p hp hg
  have h2 := b x hx p hp hg
  unfold tells at *
  dsimp only
  split at h1 <;> rename_i c
  · rw [if_pos c] at h2 ⊢
    split <;> split <;> omega
  · rw [if_neg c] at h2 ⊢
    split <;> split <;> omega
end
end K41
/-! sorted names, orders; dicts of rows -/
namespace K41
open PySem PySem.Spec PyProof.Rows L2
open C8 (Cal pe_c)
def leS (a b : Str) : Prop := ¬ b.cps.toList < a.cps.toList
theorem leS_trans {a b c : Str} (h1 : leS a b) (h2 : leS b c) : leS a c := fun h => by
  have e1 := List.not_lt.mp h1
  have e2 := List.not_lt.mp h2
  exact List.not_lt.mpr (List.le_trans e1 e2) h
theorem leS_anti {a b : Str} (h1 : leS a b) (h2 : leS b a) : a = b := PySem.W.str_of_cps (List.le_antisymm (List.not_lt.mp h1) (List.not_lt.mp h2))
theorem rising_pw : ∀ (p : Str) (l : List Str), risingS p l = true → (p :: l).Pairwise leS
  | p, [], _ => List.pairwise_singleton _ _
  | p, x :: r, h => by
    rw [risingS, Bool.and_eq_true, Bool.not_eq_true', ltCps_eq, decide_eq_false_iff_not] at h
    have ih := rising_pw x r h.2
    refine List.pairwise_cons.mpr ⟨fun y hy => ?_, ih⟩
    rcases List.mem_cons.mp hy with rfl | hy
    · exact h.1
    · exact leS_trans h.1 ((List.pairwise_cons.mp ih).1 y hy)
theorem sorted_pw : ∀ {l : List Str}, sortedS l = true → l.Pairwise leS
  | [], _ => .nil
  | x :: r, h => rising_pw x r h
theorem sorted_uniq {l m : List Str} (p : l.Perm m) (hl : sortedS l = true) (hm : sortedS m = true) : l = m :=
  List.Perm.eq_of_pairwise (le := leS) (fun a b _ _ h1 h2 => leS_anti h1 h2) (sorted_pw hl) (sorted_pw hm) p
/-! ### the order of the heights -/
def htD (r : Str → Nat) (n : Str) : PyData := .tuple [.int (r n : Int), .str n]
def ordL (h : Hall) (r : Str → Nat) : List Str := h.names.mergeSort fun a b => PySem.W.dataLe false (fun d : PyData => d) (htD r a) (htD r b)
theorem ordL_map (h : Hall) (r : Str → Nat) : (h.names.map (htD r)).mergeSort (PySem.W.dataLe false fun d => d) = (ordL h r).map (htD r) := by
  rw [ordL, List.map_mergeSort]
  intro a _ b _
  rfl
theorem ht_le {r : Str → Nat} {a b : Str} (e : PySem.W.dataLe false (fun d : PyData => d) (htD r a) (htD r b) = true) : r a ≤ r b := by
  rw [PySem.W.dataLe_eq] at e
  simp only [cond_false, Bool.not_eq_true'] at e
  by_cases c : r b < r a
  · exfalso
    have : PySem.W.dataLt (htD r b) (htD r a) = true := by
      rw [htD, htD, PySem.W.dataLt_pair (by simp [PySem.W.alike]) (by simp [PySem.W.alike]), if_neg (by simp [PyData.eqv]; omega), PySem.W.dataLt_int]
      simpa using c
    rw [this] at e
    cases e
  · omega
theorem ordL_perm (h : Hall) (r : Str → Nat) : (ordL h r).Perm h.names := List.mergeSort_perm _ _
theorem ordL_pw (h : Hall) (r : Str → Nat) : (ordL h r).Pairwise fun a b => r a ≤ r b := by
  have t : PySem.W.TotalLe fun a b : Str => PySem.W.dataLe false (fun d : PyData => d) (htD r a) (htD r b) := by
    have q : PySem.W.TotalLe (PySem.W.dataLe false (fun d : PyData => d)) := PySem.W.sortLe_total _ _ _
    exact ⟨fun a b c => q.trans _ _ _, fun a b => q.total _ _⟩
  exact (PySem.W.sort_pairwise t h.names).imp fun e => ht_le e
/-- each start of a still arc stands ahead of its end -/
def Topo (h : Hall) (L : List Str) : Prop := ∀ (j : Nat) (n : Str) (x : Arc), L[j]? = some n → x ∈ h.arcs → h.gr x = 0 → h.en x = n → ∃ i, i < j ∧ L[i]? = some (h.st x)
theorem ordL_topo {h : Hall} (ok : h.Ok) {r : Str → Nat} (rk : Ranked h r) : Topo h (ordL h r) := fun j n x hj hx hg he => by
  have up := rk.up x hx hg
  have hs : h.st x ∈ ordL h r := (ordL_perm h r).mem_iff.mpr (ok.stn hx).1
  obtain ⟨i, hi⟩ := List.mem_iff_getElem?.mp hs
  refine ⟨i, ?_, hi⟩
  obtain ⟨lj, ej⟩ := List.getElem?_eq_some_iff.mp hj
  obtain ⟨li, ei⟩ := List.getElem?_eq_some_iff.mp hi
  rcases Nat.lt_trichotomy i j with c | c | c
  · exact c
  · exfalso
    subst c
    rw [ej] at ei
    rw [he, ← ei] at up
    exact Nat.lt_irrefl _ up
  · exfalso
    have := List.pairwise_iff_getElem.mp (ordL_pw h r) j i lj li c
    rw [ej, ei] at this
    rw [he] at up
    omega
/-! ### a run as a dict -/
def rowI (R : Str → Nat → Int) (n : Str) (k : Nat) : List Int := (List.range k).map (R n)
def rowD (R : Str → Nat → Int) (many : Nat) (n : Str) : PyData := .tuple ((rowI R n many).map .int)
def RunAt (H : Hp) (d : Addr) (ns : List Str) (many : Nat) (R : Str → Nat → Int) : Prop := ∃ kvs, H d = some (.dK kvs) ∧ Paired (fun n (q : Key × V) => q.1 = Sum.inr n ∧ Tv H q.2 (rowD R many n)) ns kvs
theorem rowI_get {R : Str → Nat → Int} {n : Str} {k p : Nat} (hp : p < k) : (rowI R n k)[p]? = some (R n p) := by
  rw [rowI, List.getElem?_map, List.getElem?_range hp]
  rfl
theorem rowI_len (R : Str → Nat → Int) (n : Str) (k : Nat) : (rowI R n k).length = k := by rw [rowI, List.length_map, List.length_range]
theorem rowI_snoc (R : Str → Nat → Int) (n : Str) (k : Nat) : rowI R n (k + 1) = rowI R n k ++ [R n k] := by rw [rowI, List.range_succ, List.map_append]; rfl
theorem rows_get {H : Hp} {ns : List Str} {kvs : List (Key × V)} {many : Nat} {R : Str → Nat → Int} {n : Str} (p : Paired (fun n (q : Key × V) => q.1 = Sum.inr n ∧ Tv H q.2 (rowD R many n)) ns kvs) (hn : n ∈ ns) :
    ∃ a, valV kvs (Sum.inr n) = some (.ref a) ∧ H a = some (.tup ((rowI R n many).map V.int)) := by
  obtain ⟨v, h1, h2⟩ := keys_get (G := fun n v => Tv H v (rowD R many n)) p hn
  obtain ⟨a, xs, rfl, ha, t⟩ := Tv.tup_inv h2
  rw [t.ints_inv] at ha
  exact ⟨a, h1, ha⟩
/-- rows that grow: each name's own list -/
def prK (prs : List (Str × Addr)) : List (Key × V) := prs.map fun e => (Sum.inr e.1, .ref e.2)
theorem prK_get {prs : List (Str × Addr)} {n : Str} {a : Addr} : (prs.map (·.1)).Nodup → (n, a) ∈ prs → valV (prK prs) (Sum.inr n) = some (.ref a) := by
  induction prs with
  | nil => intro _ h; cases h
  | cons e prs ih =>
    intro nd h
    rw [List.map_cons, List.nodup_cons] at nd
    rcases List.mem_cons.mp h with h | h
    · subst h
      exact valV_pos rfl
    · rw [prK, List.map_cons, valV_neg]
      · exact ih nd.2 h
      · intro z
        exact nd.1 (by rw [Sum.inr.inj z]; exact List.mem_map.mpr ⟨_, h, rfl⟩)
theorem prK_ex {prs : List (Str × Addr)} {n : Str} (h : n ∈ prs.map (·.1)) : ∃ a, (n, a) ∈ prs := by
  obtain ⟨e, he, rfl⟩ := List.mem_map.mp h
  exact ⟨e.2, he⟩
/-- {n: [] for n in ..} -/
theorem dc_new {J : It} {Gd : Hp → Prop} {Y : Nat → Hp → V → Hp → Prop} {ns : List Str} (w : Walk J ns.length Gd Y) {g : TG} {tt : TT} {tk tv : TE} {vs : List Nat} {σ : L2.St} {H1 : Hp} {D : Addr} {Qd : Hp → Prop} (hD : H1 D = none) (nd : ns.Nodup)
    (hG : ∀ H, Same H1 H → Gd H) (hn : ns.length ≤ 50000)
    (step : ∀ i n x H H', ns[i]? = some n → Same H1 H → Y i H x H' → ∀ (N : Hp → Prop) (R : V → V → Hp → Prop), (∀ l, H l = none → R (.str n) (.ref l) (upd H l (.lst []))) →
      g x (wipe σ vs) H' fun σ2 H2 => wipe σ2 vs = wipe σ vs ∧ tt σ2 H2 fun b H3 => if b = true then tk σ2 H3 fun y H4 => tv σ2 H4 fun z H5 => R y z H5 else N H3)
    (done : ∀ H' prs, Same H1 H' → H' D = some (.dK (prK prs)) → prs.map (·.1) = ns → (prs.map (·.2)).Nodup → (∀ e ∈ prs, H' e.2 = some (.lst []) ∧ H1 e.2 = none) → Qd H') :
    ∃ W : Nat → Nat → Hp → Prop, (∃ m, W 0 m (upd H1 D (.dK []))) ∧ ∀ i m H, W i m H →
      (J.stop i H ∧ Qd H) ∨ (J.go i H ∧ ∃ Nx : Hp → Prop, (∀ H', Nx H' → ∃ m', m' < m ∧ W (i + 1) m' H') ∧ ∀ x H', J.yld i H x H' → g x (wipe σ vs) H' fun σ2 H2 => wipe σ2 vs = wipe σ vs ∧ tt σ2 H2 fun b H3 =>
        if b = true then tk σ2 H3 fun y H4 => tv σ2 H4 fun z H5 => ∃ kvs k, y = kV k ∧ H5 D = some (.dK kvs) ∧ kvs.length < sizeLine ∧ Nx (upd H5 D (.dK (putK kvs k z))) else Nx H3) := by
  let Pv : Nat → Hp → Prop := fun i H => Same H1 H ∧ ∃ prs : List (Str × Addr), H D = some (.dK (prK prs)) ∧ prs.map (·.1) = ns.take i ∧ (prs.map (·.2)).Nodup ∧ ∀ e ∈ prs, H e.2 = some (.lst []) ∧ H1 e.2 = none
  refine ⟨fun i m H => m = ns.length - i ∧ i ≤ ns.length ∧ Pv i H, ⟨ns.length, by simp, Nat.zero_le _, Same.new hD, [], upd_same, rfl, .nil, fun e he => by cases he⟩, ?_⟩
  rintro i m H ⟨rfl, hi, s, prs, e, ek, ea, p⟩
  by_cases hlt : i < ns.length
  · have en : ns[i]? = some ns[i] := List.getElem?_eq_getElem hlt
    refine .inr ⟨w.goes i H hlt (hG H s), Pv (i + 1), fun H' q => ⟨ns.length - (i + 1), by omega, rfl, hlt, q⟩, fun x H' y => ?_⟩
    refine step i ns[i] x H H' en s (w.yields i H x H' hlt (hG H s) y) _ _ fun l hl => ?_
    have fr : ns[i] ∉ prs.map (·.1) := fun hm => by
      rw [ek] at hm
      obtain ⟨j, hj⟩ := List.mem_iff_getElem?.mp hm
      rw [List.getElem?_take] at hj
      split at hj
      · rename_i hji
        obtain ⟨hj2, e2⟩ := List.getElem?_eq_some_iff.mp hj
        have := (List.getElem_inj nd).mp e2
        omega
      · cases hj
    have vn : valV (prK prs) (Sum.inr ns[i]) = none := by
      cases q : valV (prK prs) (Sum.inr ns[i]) with
      | none => rfl
      | some v =>
        exfalso
        have h2 := valV_any (Sum.inr ns[i]) (prK prs)
        rw [q] at h2
        simp only [Option.isSome_some, List.any_eq_true, decide_eq_true_eq] at h2
        obtain ⟨e0, he0, h3⟩ := h2
        obtain ⟨e1, he1, rfl⟩ := List.mem_map.mp he0
        exact fr (by rw [← Sum.inr.inj h3]; exact List.mem_map.mpr ⟨_, he1, rfl⟩)
    have hl2 : prs.length = i := by
      have := congrArg List.length ek
      rw [List.length_map, List.length_take] at this
      omega
    have eD := (Same.new hl (o := .lst [])) _ _ e
    have nlD : l ≠ D := fun z => by subst z; rw [hl] at e; cases e
    have ep : putK (prK prs) (Sum.inr ns[i]) (.ref l) = prK (prs ++ [(ns[i], l)]) := by
      unfold putK
      rw [valV_any, vn, prK, prK, List.map_append]
      rfl
    have hl1 : H1 l = none := s.free hl
    refine ⟨prK prs, Sum.inr ns[i], rfl, eD, smallL (by rw [prK, List.length_map]; omega), ?_⟩
    rw [ep]
    refine ⟨(s.trans (Same.new hl)).mut hD, _, upd_same, ?_, ?_, fun e0 he0 => ?_⟩
    · rw [List.map_append, ek, List.take_succ, en]
      rfl
    · rw [List.map_append, List.nodup_append]
      refine ⟨ea, by simp, fun a ha b hb => ?_⟩
      simp at hb
      subst hb
      obtain ⟨e1, he1, rfl⟩ := List.mem_map.mp ha
      intro z
      have := (p e1 he1).1
      rw [z, hl] at this
      cases this
    · rcases List.mem_append.mp he0 with he0 | he0
      · obtain ⟨h1, h2⟩ := p e0 he0
        refine ⟨?_, h2⟩
        rw [upd_ne (ne_of h1 e (by intro z; cases z))]
        exact (Same.new hl) _ _ h1
      · simp at he0
        subst he0
        exact ⟨by rw [upd_ne nlD]; exact upd_same, hl1⟩
  · have ei : i = ns.length := by omega
    subst ei
    rw [List.take_length] at ek
    exact .inl ⟨w.stops H (hG H s), done H prs s e ek ea p⟩
/-- behind a lock -/
theorem unlock_same {H H' : Hp} {d : Addr} {od : Obj} {u : HO} (e : H d = some u) (s : Same (upd H d (.frz od u)) H') : Same H (upd H' d u) := fun a o h => by
  by_cases c : a = d
  · subst c
    rw [e] at h
    cases h
    exact upd_same
  · rw [upd_ne c]
    exact s a o (by rw [upd_ne c]; exact h)
theorem lock_tk {H : Hp} {d : Addr} {o : HO} {u : HO} (e : H d = some u) (n : ∀ xs, u ≠ .tup xs) : TK H (upd H d o) := fun a xs h => by
  rw [upd_ne (fun z => by subst z; rw [e] at h; exact n xs (Option.some.inj h))]
  exact h
end K41
/-! led -/
namespace K41
open PySem PySem.Spec PyProof.Rows L2
open C8 (Cal pe_c)
/-- what stands while rows grow: prs the names' lists, D the dict, D2 the order -/
structure Grow (H : Hp) (D2 D : Addr) (L : List Str) (prs : List (Str × Addr)) (B : Str → Nat → Int) (H' : Hp) (len : Str → Nat) : Prop where
  s : Same H H'
  o : H' D2 = some (.lst (L.map .str))
  d : H' D = some (.dK (prK prs))
  r : ∀ e ∈ prs, H' e.2 = some (.lst ((rowI B e.1 (len e.1)).map .int))
theorem Grow.m {H H' H'' : Hp} {D2 D : Addr} {L : List Str} {prs : List (Str × Addr)} {B : Str → Nat → Int} {len : Str → Nat} (g : Grow H D2 D L prs B H' len) (k : Same H' H'') : Grow H D2 D L prs B H'' len :=
  ⟨g.s.trans k, k _ _ g.o, k _ _ g.d, fun e he => k _ _ (g.r e he)⟩
theorem Grow.len {H H' : Hp} {D2 D : Addr} {L : List Str} {prs : List (Str × Addr)} {B : Str → Nat → Int} {len len' : Str → Nat} (g : Grow H D2 D L prs B H' len) (k : ∀ e ∈ prs, len e.1 = len' e.1) : Grow H D2 D L prs B H' len' :=
  ⟨g.s, g.o, g.d, fun e he => by rw [← k e he]; exact g.r e he⟩
theorem Grow.app {H H' : Hp} {D2 D : Addr} {L : List Str} {prs : List (Str × Addr)} {B : Str → Nat → Int} {len : Str → Nat} (g : Grow H D2 D L prs B H' len) (nn : ∀ e ∈ prs, H e.2 = none ∧ e.2 ≠ D2) (n1 : (prs.map (·.1)).Nodup) (n2 : (prs.map (·.2)).Nodup) {n : Str} {a : Addr} (m : (n, a) ∈ prs) :
    Grow H D2 D L prs B (upd H' a (.lst ((rowI B n (len n)).map .int ++ [.int (B n (len n))]))) (fun k => if k = n then len n + 1 else len k) := by
  have ha := g.r _ m
  refine ⟨g.s.mut (nn _ m).1, ?_, ?_, fun e he => ?_⟩
  · rw [upd_ne (Ne.symm (nn _ m).2)]
    exact g.o
  · rw [upd_ne (ne_of g.d ha (by intro z; cases z))]
    exact g.d
  · by_cases c : e.2 = a
    · have : e = (n, a) := by
        obtain ⟨i, hi⟩ := List.mem_iff_getElem?.mp he
        obtain ⟨j, hj⟩ := List.mem_iff_getElem?.mp m
        have h1 : (prs.map (·.2))[i]? = some a := by rw [List.getElem?_map, hi, ← c]; rfl
        have h2 : (prs.map (·.2))[j]? = some a := by rw [List.getElem?_map, hj]; rfl
        have e3 := nodup_get n2 h1 h2
        subst e3
        rw [hi] at hj
        exact Option.some.inj hj
      subst this
      show upd H' a _ a = some (.lst ((rowI B n (if n = n then len n + 1 else len n)).map .int))
      rw [upd_same, if_pos rfl, rowI_snoc, List.map_append]
      rfl
    · have c1 : e.1 ≠ n := fun z => by
        obtain ⟨i, hi⟩ := List.mem_iff_getElem?.mp he
        obtain ⟨j, hj⟩ := List.mem_iff_getElem?.mp m
        have h1 : (prs.map (·.1))[i]? = some n := by rw [List.getElem?_map, hi, ← z]; rfl
        have h2 : (prs.map (·.1))[j]? = some n := by rw [List.getElem?_map, hj]; rfl
        obtain ⟨p1, e1⟩ := List.getElem?_eq_some_iff.mp h1
        obtain ⟨p2, e2⟩ := List.getElem?_eq_some_iff.mp h2
        have e3 := (List.getElem_inj n1).mp (e1.trans e2.symm)
        subst e3
        rw [hi] at hj
        exact c (by rw [Option.some.inj hj])
      rw [upd_ne c, if_neg c1]
      exact g.r e he
section
variable {P : Program} {w : World} {K : PySem.W.Frag} {mg : Str → Option Value} {base : Heap}
def sp_led : Sp := fun vs H Q _ => ∃ (v : V) (d lk fd : Addr) (many : Nat) (h : Hall) (r : Str → Nat) (st fl : StT) (lv : List V) (B : Str → Nat → Int), vs = [v, .ref d, .ref lk, .ref fd, .int (many : Int)] ∧ Tv H v h.py ∧ h.Ok ∧ Ranked h r ∧ H d = some (.dT (stK st)) ∧
  H lk = some (.lst lv) ∧ TvAll H lv (h.arcs.map (linkD h)) ∧ H fd = some (.dT (stK fl)) ∧ many ≤ 1000 ∧ IsB h st (flV fl) B ∧ ∀ p H', Same H H' → H p = none → RunAt H' p h.names many B → Q (.ref p) H'
theorem c_led (T : Txt K mg) : Cal P w K mg base 7 "led" sp_led [] := by
  refine cal_of T.d_led sc_led (fun vs H Q E h => by first | (obtain ⟨_, rfl, _⟩ := h; rfl) | (obtain ⟨_, _, rfl, _⟩ := h; rfl) | (obtain ⟨_, _, _, rfl, _⟩ := h; rfl) | (obtain ⟨_, _, _, _, rfl, _⟩ := h; rfl) | (obtain ⟨_, _, _, _, _, rfl, _⟩ := h; rfl) | (obtain ⟨_, _, _, _, _, _, rfl, _⟩ := h; rfl) | (obtain ⟨_, _, _, _, _, _, _, rfl, _⟩ := h; rfl) | (obtain ⟨_, _, _, _, _, _, _, _, rfl, _⟩ := h; rfl) | (obtain ⟨_, _, _, _, _, _, _, _, _, rfl, _⟩ := h; rfl) | (obtain ⟨_, _, _, _, _, _, _, _, _, _, rfl, _⟩ := h; rfl) | (obtain ⟨_, _, _, _, _, _, _, _, _, _, _, rfl, _⟩ := h; rfl) | (obtain ⟨_, _, _, _, _, _, _, _, _, _, _, _, rfl, _⟩ := h; rfl)) bi_led (fun f cdv A outer s H vs Q E hr hsp => ?_)
  have hu := hu_of hr
  have hu64 := hr.units
  have hu2 := hu2_of hr
  have hu80 := hu80_of hr
  have nd := sc_led.nd
  refine ⟨_, (pss_cons (ps_set (i := 5) nd rfl (by first | exact Or.inl rfl | exact Or.inr rfl) (pe_c (c_rise T) hr (by decide) rfl (pa_cons (pv 0) pa_nil)))
    (pss_cons (ps_setLc (i := 6) (own := [("height", 7), ("name", 8)]) rfl nd rfl rfl (sw_true rfl rfl rfl (by decide +kernel)) (pil (K := K) rfl (pe_callB (cr_sortD hu80) (by rfl) T.b_sorted (by decide +kernel) (pa_cons (pe_lock (pe_lc (own := [("name", 8)]) rfl nd (pi_keys (pv 5)) (blkOk_by (own := [("name", 8)]) (N := n_led) (sc := defScope s_led) (by decide +kernel)) (fun _ _ _ _ _ => (pg_name (i := 8) nd rfl (by first | exact Or.inl rfl | exact Or.inr rfl))) (fun _ _ _ _ _ => pts_nil) (fun _ _ _ _ _ => (pe_tup (pa_cons (pe_dget hu (pv 5) (pv 8) (fun _ _ => rfl)) (pa_cons (pv 8) pa_nil)))))) pa_nil))) (blkOk_by (own := [("height", 7), ("name", 8)]) (N := n_led) (sc := defScope s_led) (by decide +kernel)) (fun _ _ _ _ _ => (pgt (K := K) (n := 2) rfl (pgs_cons (pg_name (i := 7) nd rfl (by first | exact Or.inl rfl | exact Or.inr rfl)) (pgs_cons (pg_name (i := 8) nd rfl (by first | exact Or.inl rfl | exact Or.inr rfl)) pgs_nil)))) (fun _ _ _ _ _ => pts_nil) (fun _ _ _ _ _ => (pv 8)))
    (pss_cons (ps_set (i := 9) nd rfl (by first | exact Or.inl rfl | exact Or.inr rfl) (pe_dc (own := [("name", 8)]) rfl nd (pil (K := K) rfl (pe_callB (call_sortedD rfl) (by rfl) T.b_sorted (by decide +kernel) (pa_cons (pv 5) pa_nil))) (blkOk_by (own := [("name", 8)]) (N := n_led) (sc := defScope s_led) (by decide +kernel)) (fun _ _ _ _ _ => (pg_name (i := 8) nd rfl (by first | exact Or.inl rfl | exact Or.inr rfl))) (fun _ _ _ _ _ => pts_nil) (fun _ _ _ _ _ => (pv 8)) (fun _ _ _ _ _ => (pe_lst pa_nil))))
    (pss_cons (ps_for PassesOwn.never rfl (pi_range1 (by rfl) T.b_range (pa_cons (pv 4) pa_nil)) (pg_name (i := 10) nd rfl (by first | exact Or.inl rfl | exact Or.inr rfl)) (pss_one (ps_for PassesOwn.never rfl (pil (K := K) rfl (pv 6)) (pg_name (i := 8) nd rfl (by first | exact Or.inl rfl | exact Or.inr rfl)) (pss_cons (ps_set (i := 11) nd rfl (by first | exact Or.inl rfl | exact Or.inr rfl) (pe_dget2 hu (pv 3) (pe_tup (pa_cons (pv 8) (pa_cons (pv 10) pa_nil))) pe_int ⟨by rfl, by rfl, by rfl, by rfl⟩))
    (pss_cons (ps_for PassesOwn.never rfl (pil (K := K) rfl (pv 2)) (pg_name (i := 12) nd rfl (by first | exact Or.inl rfl | exact Or.inr rfl)) (pss_one (ps_if (PW.pt (pw_and (pt_cmpR op_eq (pe_ix (ixt (K := K) rfl) (pv 12) pe_int (fun _ _ => rfl)) (pv 8) (nomark _)) (pw_and1 (pt_cmpR op_le (pe_ix (ixt (K := K) rfl) (pv 12) pe_int (fun _ _ => rfl)) (pv 10) (nomark _))))) (pss_one (ps_set (i := 11) nd rfl (by first | exact Or.inl rfl | exact Or.inr rfl) (pe_callB (call_max2 rfl) (by rfl) T.b_max (by decide +kernel) (pa_cons (pv 11) (pa_cons (pe_c (c_told_by T) hr (by decide) rfl (pa_cons (pv 0) (pa_cons (pv 1) (pa_cons (pv 9) (pa_cons (pv 12) (pa_cons (pv 10) pa_nil)))))) pa_nil))))) pss_nil)))
    (pss_one (ps_expr (pe_bm PySem.F.plainAttrs_list PySem.F.slot_list_append PySem.F.type_list_append mt_append (pe_dget hu (pv 9) (pv 8) (fun _ _ => rfl)) (pa_cons (pv 11) pa_nil)))))))))
    (pss_one (ps_ret (pe_lock (pe_dc (own := [("name", 8)]) rfl nd (pi_keys (pv 9)) (blkOk_by (own := [("name", 8)]) (N := n_led) (sc := defScope s_led) (by decide +kernel)) (fun _ _ _ _ _ => (pg_name (i := 8) nd rfl (by first | exact Or.inl rfl | exact Or.inr rfl))) (fun _ _ _ _ _ => pts_nil) (fun _ _ _ _ _ => (pv 8)) (fun _ _ _ _ _ => (pe_callTy (cr_tuple (K := K) rfl) (by rfl) T.b_tuple (by decide +kernel) (pa_cons (pe_dget hu (pv 9) (pv 8) (fun _ _ => rfl)) pa_nil))))))))))), ?_⟩
  obtain ⟨v, d, lk, fd, many, h, r, st, fl, lv, B, rfl, tv, ok, rk, hd, hlk, tlk, hfd, hmany, ib, q⟩ := hsp
  have hnl : h.names.length = h.ms.length := by rw [Hall.names, List.length_map]
  have n4 := ok.n4
  have klen : (hK h.names r).length = h.names.length := by rw [hK, List.length_map]
  refine ⟨_, rfl, _, h, r, rfl, tv, ok, rk, fun pH H1 s1 hpH eH => ?_⟩
  -- the order
  refine ⟨pH, _, eH, trivial, fun od => ⟨_, rfl, pH, od, rfl, .inl ⟨_, upd_same, fun D1 hD1 => ?_⟩⟩⟩
  have wk : Walk (Itk pH od (hK h.names r)) h.names.length (fun H => H pH = some (.frz od (.dK (hK h.names r)))) (fun i H x H' => H' = H ∧ ∃ k v, (hK h.names r)[i]? = some (k, v) ∧ x = kV k) := by
    have := walk_keys (d := pH) (o := od) (kvs := hK h.names r)
    rwa [klen] at this
  have eF := upd_same (H := H1) (a := pH) (o := .frz od (.dK (hK h.names r)))
  refine lc_lst h.names wk hD1 (fun H s => s _ _ eF) (fun _ => true) (htD r) (by omega) (fun i n x H2 H' hi s hy N R _ r' => ?_) (fun H2 ys s2 e2 t2 => ?_)
  · obtain ⟨rfl, k, vv, hk, rfl⟩ := hy
    have ek : (hK h.names r)[i]? = some (Sum.inr n, .int (r n : Int)) := by rw [hK, List.getElem?_map, hi]; rfl
    rw [ek] at hk
    cases hk
    have vn : valV (hK h.names r) (Sum.inr n) = some (.int (r n : Int)) := valV_map (g := fun n => .int (r n : Int)) (List.mem_of_getElem? hi)
    refine ⟨rfl, yesT ⟨_, rfl, _, rfl, _, _, rfl, .inl ⟨_, _, .inr ⟨od, s _ _ eF⟩, rfl, vn.symm⟩, _, rfl, by show 2 ≤ sizeLine; decide, fun p hp => r' _ _ (Same.new hp) rfl (.tup upd_same (.cons (.int _) (.cons (.str _) .nil)))⟩⟩
  rw [flt_true] at t2
  have eF2 := s2 _ _ eF
  refine ⟨eF2, ?_⟩
  have s13 := unlock_same (od := od) eH s2
  have D1p : D1 ≠ pH := fun z => by subst z; rw [hD1] at eF; cases eF
  have tkU : TK H2 (upd H2 pH (.dK (hK h.names r))) := lock_tk eF2 (by intro xs z; cases z)
  have eD1 : (upd H2 pH (.dK (hK h.names r))) D1 = some (.lst ys) := by rw [upd_ne D1p]; exact e2
  have t3 := t2.m tkU
  have eP3 : (upd H2 pH (.dK (hK h.names r))) pH = some (.dK (hK h.names r)) := upd_same
  generalize upd H2 pH (.dK (hK h.names r)) = H3 at s13 eD1 t3 eP3 ⊢
  refine ⟨D1, ys, h.names.map (htD r), rfl, SqL.of eD1, t3, ?_, ?_, ?_, fun zs p4 hp4 t4 => ?_⟩
  · intro a ha b hb
    obtain ⟨x, _, rfl⟩ := List.mem_map.mp ha
    obtain ⟨y, _, rfl⟩ := List.mem_map.mp hb
    simp [htD, PySem.W.alike, PySem.W.alikeAll]
  · refine .inl fun a ha => ?_
    obtain ⟨x, _, rfl⟩ := List.mem_map.mp ha
    exact ⟨_, _, rfl⟩
  · intro a ha
    obtain ⟨x, hx, rfl⟩ := List.mem_map.mp ha
    exact Nat.le_trans (sm_tuple (two_mem (sm_int (i := (r x : Int))) (sm_str (ok.str x hx).1))).dep (by decide)
  rw [ordL_map] at t4
  have s34 : Same H3 (upd H3 p4 (.lst zs)) := Same.new hp4
  refine ⟨_, rfl, ⟨_, SqL.of upd_same⟩, fun D2 hD2 => ?_⟩
  have t4' := t4.m s34.tk
  have e4 : (upd H3 p4 (.lst zs)) p4 = some (.lst zs) := upd_same
  have e34 := s34 _ _ eP3
  have s14 := s13.trans s34
  generalize upd H3 p4 (.lst zs) = H4 at hD2 t4' e4 e34 s14 ⊢
  have Llen : (ordL h r).length = h.names.length := (ordL_perm h r).length_eq
  refine lc_lst (ordL h r) (walk_listL (K := K) t4'.lenm) hD2 (fun H s => SqL.of (s _ _ e4)) (fun _ => true) (fun n => .str n) (by omega) (fun i n x H5 H' hi s hy N R _ r' => ?_) (fun H5 ys5 s5 e5 t5 => ?_)
  · obtain ⟨rfl, hx⟩ := hy
    obtain ⟨v5, e1, e2⟩ := (t4'.m s.tk).at hi
    rw [e1] at hx
    cases hx
    obtain ⟨ap, xs, rfl, hap, tx⟩ := Tv.tup_inv e2
    cases tx with
    | cons tx1 tx =>
      cases tx with
      | cons tx2 tx =>
        cases tx
        cases tx1
        cases tx2
        exact ⟨_, _, rfl, SqT.of hap, rfl, _, _, rfl, _, _, rfl, rfl, rfl, yesT ⟨_, rfl, r' _ _ (Same.refl _) rfl (.str _)⟩⟩
  rw [flt_true] at t5
  have eys : ys5 = (ordL h r).map V.str := TvAll.strs_inv t5
  subst eys
  have eP5 := s5 _ _ e34
  have s15 := s14.trans s5
  -- the rows
  refine ⟨_, rfl, pH, _, h.names, rfl, .inl eP5, by rw [hK, List.map_map]; rfl, by omega, fun ns' p6 perm so hp6 => ?_⟩
  have en := sorted_uniq perm so ok.srt
  subst en
  refine ⟨_, rfl, ⟨_, SqL.of upd_same⟩, fun D hD => ?_⟩
  have s56 : Same H5 (upd H5 p6 (.lst (h.names.map V.str))) := Same.new hp6
  have e6 : (upd H5 p6 (.lst (h.names.map V.str))) p6 = some (.lst (h.names.map V.str)) := upd_same
  have eO6 := s56 _ _ e5
  have s16 := s15.trans s56
  generalize upd H5 p6 (.lst (h.names.map V.str)) = H6 at hD e6 eO6 s16 ⊢
  refine dc_new (ns := h.names) (walk_listL (K := K) (by rw [List.length_map])) hD ok.nd (fun H s => SqL.of (s _ _ e6)) (by omega) (fun i n x H7 H' hi s hy N R r' => ?_) (fun H7 prs s7 e7 ek ea ep => ?_)
  · obtain ⟨rfl, hx⟩ := hy
    rw [List.getElem?_map, hi] at hx
    cases hx
    exact ⟨rfl, yesG ⟨_, rfl, by show 0 ≤ sizeLine; decide, fun l hl => r' l hl⟩⟩
  have sH6 : Same H H6 := s1.trans s16
  have nn : ∀ e ∈ prs, H e.2 = none ∧ e.2 ≠ D2 := fun e he => ⟨sH6.free (ep e he).2, fun z => by
    have := (ep e he).2
    rw [z, eO6] at this
    cases this⟩
  have n1 : (prs.map (·.1)).Nodup := by rw [ek]; exact ok.nd
  have g7 : Grow H D2 D (ordL h r) prs B H7 fun _ => 0 := ⟨sH6.trans s7, s7 _ _ eO6, e7, fun e he => (ep e he).1⟩
  have pex : ∀ n ∈ h.names, ∃ a, (n, a) ∈ prs := fun n hn => prK_ex (by rw [ek]; exact hn)
  have pin : ∀ e ∈ prs, e.1 ∈ h.names := fun e he => by rw [← ek]; exact List.mem_map.mpr ⟨e, he, rfl⟩
  have top := ordL_topo ok rk
  refine ⟨_, rfl, _, rfl, by omega, by omega, ?_⟩
  have et : ((many : Int)).toNat = many := rfl
  rw [et]
  refine for_it (walk_range (lo := 0) (n := many)) (fun t σ H' => (∃ o7 o8 o10 o11 o12, σ = [some v, some (.ref d), some (.ref lk), some (.ref fd), some (.int (many : Int)), some (.ref pH), some (.ref D2), o7, o8, some (.ref D), o10, o11, o12]) ∧ Grow H D2 D (ordL h r) prs B H' fun _ => t)
    ⟨⟨_, _, _, _, _, rfl⟩, g7⟩ (fun _ _ _ _ _ => trivial) (fun t x σ H8 H9 hi p hy => ?_) (fun σ H8 p => ?_)
  · obtain ⟨⟨o7, o8, o10, o11, o12, rfl⟩, g8⟩ := p
    obtain ⟨rfl, rfl⟩ := hy
    have e0 : V.int (0 + (t : Int)) = V.int (t : Int) := by rw [Int.zero_add]
    dsimp only
    rw [e0]
    refine ⟨_, rfl, _, rfl, ⟨_, SqL.of g8.o⟩, ?_⟩
    refine for_it (walk_listL (K := K) (n := h.names.length) (by rw [List.length_map, Llen])) (fun j σ H' => (∃ o7 o8 o11 o12, σ = [some v, some (.ref d), some (.ref lk), some (.ref fd), some (.int (many : Int)), some (.ref pH), some (.ref D2), o7, o8, some (.ref D), some (.int (t : Int)), o11, o12]) ∧ Grow H D2 D (ordL h r) prs B H' fun n => if n ∈ (ordL h r).take j then t + 1 else t)
      ⟨⟨_, _, _, _, rfl⟩, g8.len fun e _ => by simp⟩ (fun j σ H' _ p => SqL.of p.2.o) (fun j x σ H10 H11 hj p hy => ?_) (fun σ H10 p => ?_)
    · obtain ⟨⟨o7, o8, o11, o12, rfl⟩, g10⟩ := p
      obtain ⟨rfl, hx⟩ := hy
      have hj' : j < (ordL h r).length := by rw [Llen]; exact hj
      have ej : (ordL h r)[j]? = some (ordL h r)[j] := List.getElem?_eq_getElem hj'
      rw [List.getElem?_map, ej] at hx
      cases hx
      have nL : (ordL h r)[j] ∈ h.names := (ordL_perm h r).mem_iff.mp (List.getElem_mem hj')
      generalize (ordL h r)[j] = n at ej nL ⊢
      refine ⟨_, rfl, fd, rfl, .inr ⟨_, .inl (g10.s _ _ hfd)⟩, _, rfl, _, rfl, by show 2 ≤ sizeLine; decide, fun p12 hp12 => ⟨_, DGet.t (k := [Sum.inr n, Sum.inl (t : Int)]) ((Same.new hp12) _ _ (g10.s _ _ hfd)) upd_same, ?_⟩⟩
      have k12 : Same H11 (upd H11 p12 (.tup [.str n, .int (t : Int)])) := Same.new hp12
      have g12 := g10.m k12
      rw [valV_stK]
      have eg : (((lkT fl [Sum.inr n, Sum.inl (t : Int)]).map V.int).getD (.int 0)) = .int (flV fl n t) := by
        unfold flV
        cases lkT fl [Sum.inr n, Sum.inl (t : Int)] <;> rfl
      rw [eg]
      generalize upd H11 p12 (.tup [.str n, .int (t : Int)]) = H12 at g12 ⊢
      have tl12 := tlk.m g12.s.tk
      refine ⟨_, rfl, _, rfl, ⟨_, SqL.of (g12.s _ _ hlk)⟩, ?_⟩
      refine for_it (walk_listL (K := K) tlk.lenm) (fun i σ H' => (∃ o7 o12, ∃ acc : Int, σ = [some v, some (.ref d), some (.ref lk), some (.ref fd), some (.int (many : Int)), some (.ref pH), some (.ref D2), o7, some (.str n), some (.ref D), some (.int (t : Int)), some (.int acc), o12] ∧
          BestL h st (flV fl) B n t (h.arcs.take i) acc) ∧ Grow H D2 D (ordL h r) prs B H' fun n => if n ∈ (ordL h r).take j then t + 1 else t)
        ⟨⟨_, _, _, rfl, BestL.start _ _ _ _⟩, g12⟩ (fun i σ H' _ p => SqL.of (p.2.s _ _ hlk)) (fun i xv σ H13 H14 hi p hy => ?_) (fun σ H13 p => ?_)
      · obtain ⟨⟨o7, o12, acc, rfl, bl⟩, g13⟩ := p
        obtain ⟨rfl, hx⟩ := hy
        have ei : h.arcs[i]? = some h.arcs[i] := List.getElem?_eq_getElem hi
        obtain ⟨v2, e1, e2⟩ := (tlk.m g13.s.tk).at ei
        rw [e1] at hx
        cases hx
        have etk : h.arcs.take (i + 1) = h.arcs.take i ++ [h.arcs[i]] := by rw [List.take_succ, ei]; rfl
        have ya : h.arcs[i] ∈ h.arcs := List.getElem_mem hi
        generalize h.arcs[i] = y at ei e2 etk ya
        obtain ⟨la, rfl, hla⟩ := link_inv e2
        refine tIfS_any (fun b H' => Same H14 H' ∧ (b = true ↔ h.en y = n ∧ h.gr y ≤ t)) (fun Qb k => ?_) (fun H15 gg => ?_) (fun H15 gg => ?_)
        · refine ⟨_, rfl, _, _, 1, _, rfl, rfl, SqT.of hla, atI_nat rfl, _, rfl, rfl, _, rfl, ?_⟩
          rw [dec_str]
          by_cases c : h.en y = n
          · rw [decide_eq_true c]
            refine iteT ⟨_, rfl, _, _, 2, _, rfl, rfl, SqT.of hla, atI_nat rfl, _, rfl, _, _, rfl, rfl, _, rfl, k _ _ ⟨Same.refl _, ?_⟩⟩
            rw [decide_eq_true_eq]
            constructor
            · intro z
              exact ⟨c, by omega⟩
            · intro z
              have := z.2
              omega
          · rw [decide_eq_false c]
            exact iteF (k _ _ ⟨Same.refl _, ⟨fun z => (by cases z), fun z => absurd z.1 c⟩⟩)
        · obtain ⟨s15, gg⟩ := gg
          have cc := gg.mp rfl
          have g15 := g13.m s15
          have yn := ok.stn ya
          obtain ⟨ad, had⟩ := pex _ yn.1
          have hrow := g15.r _ had
          have hlen : t - h.gr y < (if h.st y ∈ (ordL h r).take j then t + 1 else t) := by
            by_cases c0 : h.gr y = 0
            · obtain ⟨i2, hi2, e3⟩ := top j n y ej ya c0 cc.1
              have : h.st y ∈ (ordL h r).take j := List.mem_iff_getElem?.mpr ⟨i2, by rw [List.getElem?_take, if_pos hi2]; exact e3⟩
              rw [if_pos this]
              omega
            · have := cc.2
              split <;> omega
          refine ⟨_, rfl, _, rfl, _, rfl, _, rfl, _, rfl, _, rfl, _, _, d, D, ad, t, h, st, y, prK prs, _, B, rfl, tv.m g15.s.tk, ok, ya, e2.m s15.tk, g15.s _ _ hd, g15.d, prK_get n1 had, .inl hrow, cc.2, by rw [List.getElem?_map, rowI_get hlen]; rfl, fun H16 s16 => ⟨_, _, rfl, ?_⟩⟩
          refine ⟨⟨_, _, _, rfl, ?_⟩, g15.m s16⟩
          rw [etk]
          exact bl.take cc.1 cc.2
        · obtain ⟨s15, gg⟩ := gg
          refine ⟨⟨_, _, _, rfl, ?_⟩, g13.m s15⟩
          rw [etk]
          exact bl.skip fun z => by
            have := gg.mpr z
            cases this
      · obtain ⟨⟨o7, o12, acc, rfl, bl⟩, g13⟩ := p
        rw [List.take_length] at bl
        have eacc : acc = B n t := Best.uniq (bl.all fun _ => Iff.rfl) (ib n t)
        subst eacc
        obtain ⟨ad, had⟩ := pex _ nL
        have hrow := g13.r _ had
        have nnot : n ∉ (ordL h r).take j := fun hm => by
          obtain ⟨i2, hi2⟩ := List.mem_iff_getElem?.mp hm
          rw [List.getElem?_take] at hi2
          split at hi2
          · rename_i hlt
            have nd2 : (ordL h r).Nodup := (ordL_perm h r).nodup_iff.mpr ok.nd
            obtain ⟨q1, e1⟩ := List.getElem?_eq_some_iff.mp hi2
            obtain ⟨q2, e2⟩ := List.getElem?_eq_some_iff.mp ej
            have := (List.getElem_inj nd2).mp (e1.trans e2.symm)
            omega
          · cases hi2
        dsimp only at hrow
        rw [if_neg nnot] at hrow
        refine ⟨_, rfl, _, rfl, D, .ref ad, rfl, by rw [← prK_get n1 had]; exact DGet.k (k := Sum.inr n) g13.d, .inl ⟨rfl, _, SqL.of hrow⟩, _, rfl, ad, _, _, rfl, rfl, hrow, smallL (by rw [List.length_map, rowI_len]; omega), ⟨_, _, _, _, rfl⟩, ?_⟩
        have ga := g13.app nn n1 ea had
        rw [if_neg nnot] at ga
        refine ga.len fun e he => ?_
        rw [List.take_succ, ej]
        simp only [Option.toList_some, List.mem_append, List.mem_singleton]
        by_cases c : e.1 = n
        · rw [if_pos c, if_pos (.inr c)]
        · rw [if_neg c]
          by_cases c2 : e.1 ∈ (ordL h r).take j
          · rw [if_pos c2, if_pos (.inl c2)]
          · rw [if_neg c2, if_neg (fun z => z.elim c2 c)]
    · obtain ⟨⟨o7, o8, o11, o12, rfl⟩, g10⟩ := p
      refine ⟨⟨_, _, _, _, _, rfl⟩, g10.len fun e he => ?_⟩
      have : e.1 ∈ (ordL h r).take h.names.length := by
        rw [← Llen, List.take_length]
        exact (ordL_perm h r).mem_iff.mpr (pin e he)
      rw [if_pos this]
  · obtain ⟨⟨o7, o8, o10, o11, o12, rfl⟩, g8⟩ := p
    refine ⟨D, _, g8.d, trivial, fun od => ⟨_, rfl, D, od, rfl, .inl ⟨_, upd_same, fun D9 hD9 => ?_⟩⟩⟩
    have pl : (prK prs).length = h.names.length := by rw [prK, List.length_map, ← ek, List.length_map]
    have wk2 : Walk (Itk D od (prK prs)) h.names.length (fun H => H D = some (.frz od (.dK (prK prs)))) (fun i H x H' => H' = H ∧ ∃ k v, (prK prs)[i]? = some (k, v) ∧ x = kV k) := by
      have := walk_keys (d := D) (o := od) (kvs := prK prs)
      rwa [pl] at this
    have eG := upd_same (H := H8) (a := D) (o := .frz od (.dK (prK prs)))
    have s8 : ∀ e ∈ prs, (upd H8 D (.frz od (.dK (prK prs)))) e.2 = some (.lst ((rowI B e.1 many).map .int)) := fun e he => by
      rw [upd_ne (ne_of (g8.r e he) g8.d (by intro z; cases z))]
      exact g8.r e he
    refine dc_gen (ns := h.names) wk2 hD9 ok.nd (fun H s => s _ _ eG) (fun n v H => Tv H v (rowD B many n)) (fun n v H H' k t => t.m k.tk) (by omega) (fun i n x H10 H' hi s hy N R r' => ?_) (fun H10 kvs s10 e10 p10 => ?_)
    · obtain ⟨rfl, k, vv, hk, rfl⟩ := hy
      have hn := List.mem_of_getElem? hi
      have ekn : ∃ e, prs[i]? = some e ∧ e.1 = n := by
        rw [← ek, List.getElem?_map] at hi
        obtain ⟨e, e1, e2⟩ := Option.map_eq_some_iff.mp hi
        exact ⟨e, e1, e2⟩
      obtain ⟨e, e1, rfl⟩ := ekn
      rw [prK, List.getElem?_map, e1] at hk
      cases hk
      have he := List.mem_of_getElem? e1
      have hr := s _ _ (s8 e he)
      refine ⟨rfl, yesG ⟨_, rfl, _, rfl, _, rfl, D, _, rfl, .inl ⟨_, Sum.inr e.1, .inr ⟨od, s _ _ eG⟩, rfl, (prK_get n1 he).symm⟩, e.2, _, rfl, SqL.of hr, fun l hl => r' _ _ (Same.new hl) (.tup upd_same (TvAll.ints _))⟩⟩
    · have eG2 := s10 _ _ eG
      have sU := unlock_same (od := od) g8.d s10
      have D9D : D9 ≠ D := fun z => by subst z; rw [hD9] at eG; cases eG
      have tkU2 : TK H10 (upd H10 D (.dK (prK prs))) := lock_tk eG2 (by intro xs z; cases z)
      have hD9H : H8 D9 = none := by
        have : (upd H8 D (.frz od (.dK (prK prs)))) D9 = H8 D9 := upd_ne D9D
        rw [← this]
        exact hD9
      refine ⟨eG2, q D9 _ (g8.s.trans sU) (g8.s.free hD9H) ⟨kvs, by rw [upd_ne D9D]; exact e10, Paired.mapP p10 fun n q hq => ⟨hq.1, hq.2.m tkU2⟩⟩⟩
end
end K41
/-! held_back, floors_of, is_run .. -/
namespace K41
open PySem PySem.Spec PyProof.Rows L2
open C8 (Cal pe_c)
theorem RunAt.m {H H' : Hp} {d : Addr} {ns : List Str} {many : Nat} {R : Str → Nat → Int} (a : RunAt H d ns many R) (s : Same H H') : RunAt H' d ns many R := by
  obtain ⟨kvs, e, p⟩ := a
  exact ⟨kvs, s _ _ e, Paired.mapP p fun n q hq => ⟨hq.1, hq.2.m s.tk⟩⟩
theorem RunAt.congr {H : Hp} {d : Addr} {ns : List Str} {many : Nat} {R R' : Str → Nat → Int} (a : RunAt H d ns many R) (e : ∀ n ∈ ns, ∀ p, p < many → R n p = R' n p) : RunAt H d ns many R' := by
  obtain ⟨kvs, e1, p⟩ := a
  have aux : ∀ {ns : List Str} {kvs : List (Key × V)}, (∀ n ∈ ns, rowD R many n = rowD R' many n) → Paired (fun n (q : Key × V) => q.1 = Sum.inr n ∧ Tv H q.2 (rowD R many n)) ns kvs → Paired (fun n (q : Key × V) => q.1 = Sum.inr n ∧ Tv H q.2 (rowD R' many n)) ns kvs := by
    intro ns kvs h p
    induction p with
    | nil => exact .nil
    | @cons n q ns kvs hq _ ih => exact .cons ⟨hq.1, by rw [← h n List.mem_cons_self]; exact hq.2⟩ (ih fun m hm => h m (List.mem_cons_of_mem _ hm))
  refine ⟨kvs, e1, aux (fun n hn => ?_) p⟩
  have : rowI R n many = rowI R' n many := by
    rw [rowI, rowI]
    exact List.map_congr_left fun p hp => e n hn p (List.mem_range.mp hp)
  rw [rowD, rowD, this]
theorem RunAt.keys {H : Hp} {ns : List Str} {kvs : List (Key × V)} {many : Nat} {R : Str → Nat → Int} (p : Paired (fun n (q : Key × V) => q.1 = Sum.inr n ∧ Tv H q.2 (rowD R many n)) ns kvs) : kvs.map (·.1) = ns.map Sum.inr := by
  induction p with
  | nil => rfl
  | cons h _ ih => rw [List.map_cons, List.map_cons, h.1, ih]
/-! ### stops, floors put -/
def stP (st : StT) (k : List Key) (v : Int) : StT := if (st.any fun e => decide (e.1 = k)) = true then st.map (fun e => if e.1 = k then (e.1, v) else e) else st ++ [(k, v)]
theorem stP_K (st : StT) (k : List Key) (v : Int) : stK (stP st k v) = putK (stK st) k (.int v) := by
  unfold stP putK
  have e : ((stK st).any fun kv => decide (kv.1 = k)) = (st.any fun e => decide (e.1 = k)) := by
    rw [stK, List.any_map]
    rfl
  rw [e]
  split
  · rw [stK, stK, List.map_map, List.map_map]
    apply List.map_congr_left
    intro e _
    simp only [Function.comp]
    by_cases c : e.1 = k
    · rw [if_pos c, if_pos c]
    · rw [if_neg c, if_neg c]
  · rw [stK, stK, List.map_append]
    rfl
theorem lkT_of_K {st : StT} {k : List Key} {v : Int} (e : valV (stK st) k = some (.int v)) : lkT st k = some v := by
  rw [valV_stK] at e
  cases q : lkT st k with
  | none => rw [q] at e; cases e
  | some z => rw [q] at e; cases e; rfl
theorem lkT_self (st : StT) (k : List Key) (v : Int) : lkT (stP st k v) k = some v := by
  unfold stP
  split
  · rename_i c
    induction st with
    | nil => cases c
    | cons e st ih =>
      by_cases d : e.1 = k
      · simp [lkT, d]
      · have : (st.any fun e => decide (e.1 = k)) = true := by simpa [d] using c
        have ih := ih this
        simpa [lkT, d] using ih
  · rename_i c
    have : st.find? (fun e => decide (e.1 = k)) = none := by
      rw [List.find?_eq_none]
      intro e he
      simp only [List.any_eq_true, decide_eq_true_eq, not_exists, not_and] at c
      simpa using c e he
    simp [lkT, List.find?_append, this]
theorem lkT_other (st : StT) (k k' : List Key) (v : Int) (h : k' ≠ k) : lkT (stP st k v) k' = lkT st k' := by
  unfold stP
  split
  · rename_i c
    clear c
    induction st with
    | nil => rfl
    | cons e st ih =>
      by_cases d : e.1 = k'
      · have : e.1 ≠ k := fun z => h (d.symm.trans z)
        simp [lkT, d, h]
      · have d2 : (if e.1 = k then (e.1, v) else e).1 ≠ k' := by split <;> exact d
        simpa [lkT, d, d2] using ih
  · have : ([(k, v)] : StT).find? (fun e => decide (e.1 = k')) = none := by simp [Ne.symm h]
    simp [lkT, List.find?_append, this]
theorem stP_len (st : StT) (k : List Key) (v : Int) : (stP st k v).length ≤ st.length + 1 := by
  unfold stP
  split <;> simp
section
variable {P : Program} {w : World} {K : PySem.W.Frag} {mg : Str → Option Value} {base : Heap}
def sp_held_back : Sp := fun vs H Q _ => ∃ (v : V) (d fd : Addr) (many : Nat) (h : Hall) (r : Str → Nat) (st fl : StT) (B : Str → Nat → Int), vs = [v, .ref d, .ref fd, .int (many : Int)] ∧ Tv H v h.py ∧ h.Ok ∧ Ranked h r ∧ H d = some (.dT (stK st)) ∧
  H fd = some (.dT (stK fl)) ∧ many ≤ 1000 ∧ IsB h st (flV fl) B ∧ ∀ p H', Same H H' → H p = none → RunAt H' p h.names many B → Q (.ref p) H'
theorem c_held_back (T : Txt K mg) : Cal P w K mg base 8 "held_back" sp_held_back [] := by
  refine cal_of T.d_held_back sc_held_back (fun vs H Q E h => by first | (obtain ⟨_, rfl, _⟩ := h; rfl) | (obtain ⟨_, _, rfl, _⟩ := h; rfl) | (obtain ⟨_, _, _, rfl, _⟩ := h; rfl) | (obtain ⟨_, _, _, _, rfl, _⟩ := h; rfl) | (obtain ⟨_, _, _, _, _, rfl, _⟩ := h; rfl) | (obtain ⟨_, _, _, _, _, _, rfl, _⟩ := h; rfl) | (obtain ⟨_, _, _, _, _, _, _, rfl, _⟩ := h; rfl) | (obtain ⟨_, _, _, _, _, _, _, _, rfl, _⟩ := h; rfl) | (obtain ⟨_, _, _, _, _, _, _, _, _, rfl, _⟩ := h; rfl) | (obtain ⟨_, _, _, _, _, _, _, _, _, _, rfl, _⟩ := h; rfl) | (obtain ⟨_, _, _, _, _, _, _, _, _, _, _, rfl, _⟩ := h; rfl) | (obtain ⟨_, _, _, _, _, _, _, _, _, _, _, _, rfl, _⟩ := h; rfl)) bi_held_back (fun f cdv A outer s H vs Q E hr hsp => ?_)
  have hu := hu_of hr
  have hu64 := hr.units
  have hu2 := hu2_of hr
  have hu80 := hu80_of hr
  have nd := sc_held_back.nd
  refine ⟨_, (pss_one (ps_ret (pe_c (c_led T) hr (by decide) rfl (pa_cons (pv 0) (pa_cons (pv 1) (pa_cons (pe_c (c_links_of T) hr (by decide) rfl (pa_cons (pv 0) pa_nil)) (pa_cons (pv 2) (pa_cons (pv 3) pa_nil)))))))), ?_⟩
  obtain ⟨v, d, fd, many, h, r, st, fl, B, rfl, tv, ok, rk, hd, hfd, hmany, ib, q⟩ := hsp
  exact ⟨_, rfl, _, rfl, _, rfl, _, h, rfl, tv, ok, fun p H' ys s hp e t => ⟨_, rfl, _, rfl, v, d, p, fd, many, h, r, st, fl, ys, B, rfl, tv.m s.tk, ok, rk, s _ _ hd, e, t, s _ _ hfd, hmany, ib, fun p2 H2 s2 hp2 ra => q p2 H2 (s.trans s2) (s.free hp2) ra⟩⟩
def sp_is_integer : Sp := fun vs H Q _ => ∃ (i : Int), vs = [.int i] ∧ Q (.bl true) H
theorem c_is_integer (T : Txt K mg) : Cal P w K mg base 1 "is_integer" sp_is_integer [] := by
  refine cal_of T.d_is_integer sc_is_integer (fun vs H Q E h => by first | (obtain ⟨_, rfl, _⟩ := h; rfl) | (obtain ⟨_, _, rfl, _⟩ := h; rfl) | (obtain ⟨_, _, _, rfl, _⟩ := h; rfl) | (obtain ⟨_, _, _, _, rfl, _⟩ := h; rfl) | (obtain ⟨_, _, _, _, _, rfl, _⟩ := h; rfl) | (obtain ⟨_, _, _, _, _, _, rfl, _⟩ := h; rfl) | (obtain ⟨_, _, _, _, _, _, _, rfl, _⟩ := h; rfl) | (obtain ⟨_, _, _, _, _, _, _, _, rfl, _⟩ := h; rfl) | (obtain ⟨_, _, _, _, _, _, _, _, _, rfl, _⟩ := h; rfl) | (obtain ⟨_, _, _, _, _, _, _, _, _, _, rfl, _⟩ := h; rfl) | (obtain ⟨_, _, _, _, _, _, _, _, _, _, _, rfl, _⟩ := h; rfl) | (obtain ⟨_, _, _, _, _, _, _, _, _, _, _, _, rfl, _⟩ := h; rfl)) bi_is_integer (fun f cdv A outer s H vs Q E hr hsp => ?_)
  have hu := hu_of hr
  have hu64 := hr.units
  have hu2 := hu2_of hr
  have hu80 := hu80_of hr
  have nd := sc_is_integer.nd
  refine ⟨_, (pss_one (ps_ret (pe_and (pe_callB (call_isiK (K := K) rfl) (by rfl) T.b_isinstance (by decide +kernel) (pa_cons (pv 0) (pa_cons (pe_ty (n := "int") (by rfl) T.b_int (by decide +kernel)) pa_nil))) (pe_one (pe_not (pe_callB (call_isiK (K := K) rfl) (by rfl) T.b_isinstance (by decide +kernel) (pa_cons (pv 0) (pa_cons (pe_ty (n := "bool") (by rfl) T.b_bool (by decide +kernel)) pa_nil)))))))), ?_⟩
  obtain ⟨i, rfl, q⟩ := hsp
  exact ⟨_, rfl, _, _, _, _, true, rfl, .ty "int", .base (.int i), kit_ty (by decide +kernel), _, rfl, iteT ⟨_, rfl, _, _, _, _, false, rfl, .ty "bool", .base (.int i), kit_ty (by decide +kernel), _, rfl, q⟩⟩
def sp_is_count : Sp := fun vs H Q _ => ∃ (i : Int), vs = [.int i] ∧ 0 ≤ i ∧ Q (.bl true) H
theorem c_is_count (T : Txt K mg) : Cal P w K mg base 2 "is_count" sp_is_count [] := by
  refine cal_of T.d_is_count sc_is_count (fun vs H Q E h => by first | (obtain ⟨_, rfl, _⟩ := h; rfl) | (obtain ⟨_, _, rfl, _⟩ := h; rfl) | (obtain ⟨_, _, _, rfl, _⟩ := h; rfl) | (obtain ⟨_, _, _, _, rfl, _⟩ := h; rfl) | (obtain ⟨_, _, _, _, _, rfl, _⟩ := h; rfl) | (obtain ⟨_, _, _, _, _, _, rfl, _⟩ := h; rfl) | (obtain ⟨_, _, _, _, _, _, _, rfl, _⟩ := h; rfl) | (obtain ⟨_, _, _, _, _, _, _, _, rfl, _⟩ := h; rfl) | (obtain ⟨_, _, _, _, _, _, _, _, _, rfl, _⟩ := h; rfl) | (obtain ⟨_, _, _, _, _, _, _, _, _, _, rfl, _⟩ := h; rfl) | (obtain ⟨_, _, _, _, _, _, _, _, _, _, _, rfl, _⟩ := h; rfl) | (obtain ⟨_, _, _, _, _, _, _, _, _, _, _, _, rfl, _⟩ := h; rfl)) bi_is_count (fun f cdv A outer s H vs Q E hr hsp => ?_)
  have hu := hu_of hr
  have hu64 := hr.units
  have hu2 := hu2_of hr
  have hu80 := hu80_of hr
  have nd := sc_is_count.nd
  refine ⟨_, (pss_one (ps_ret (pe_and (pe_c (c_is_integer T) hr (by decide) rfl (pa_cons (pv 0) pa_nil)) (pe_one (pe_cmpR op_ge (pv 0) pe_int (nomark _)))))), ?_⟩
  obtain ⟨i, rfl, h0, q⟩ := hsp
  refine ⟨_, rfl, i, rfl, _, rfl, iteT ⟨_, rfl, _, _, rfl, rfl, ?_⟩⟩
  show Q (.bl (decide (0 ≤ i))) H
  rw [decide_eq_true h0]
  exact q
def sp_is_kept : Sp := fun vs H Q _ => ∃ (v lk : V) (d rd : Addr) (many : Nat) (h : Hall) (st : StT) (x : Arc) (R : Str → Nat → Int), vs = [v, .ref d, .ref rd, lk] ∧ Tv H v h.py ∧ h.Ok ∧ x ∈ h.arcs ∧ Tv H lk (linkD h x) ∧ H d = some (.dT (stK st)) ∧
  RunAt H rd h.names many R ∧ many ≤ 1000 ∧ KeptF h st R many ∧ ∀ H', Same H H' → Q (.bl true) H'
theorem c_is_kept (T : Txt K mg) : Cal P w K mg base 5 "is_kept" sp_is_kept [] := by
  refine cal_of T.d_is_kept sc_is_kept (fun vs H Q E h => by first | (obtain ⟨_, rfl, _⟩ := h; rfl) | (obtain ⟨_, _, rfl, _⟩ := h; rfl) | (obtain ⟨_, _, _, rfl, _⟩ := h; rfl) | (obtain ⟨_, _, _, _, rfl, _⟩ := h; rfl) | (obtain ⟨_, _, _, _, _, rfl, _⟩ := h; rfl) | (obtain ⟨_, _, _, _, _, _, rfl, _⟩ := h; rfl) | (obtain ⟨_, _, _, _, _, _, _, rfl, _⟩ := h; rfl) | (obtain ⟨_, _, _, _, _, _, _, _, rfl, _⟩ := h; rfl) | (obtain ⟨_, _, _, _, _, _, _, _, _, rfl, _⟩ := h; rfl) | (obtain ⟨_, _, _, _, _, _, _, _, _, _, rfl, _⟩ := h; rfl) | (obtain ⟨_, _, _, _, _, _, _, _, _, _, _, rfl, _⟩ := h; rfl) | (obtain ⟨_, _, _, _, _, _, _, _, _, _, _, _, rfl, _⟩ := h; rfl)) bi_is_kept (fun f cdv A outer s H vs Q E hr hsp => ?_)
  have hu := hu_of hr
  have hu64 := hr.units
  have hu2 := hu2_of hr
  have hu80 := hu80_of hr
  have nd := sc_is_kept.nd
  refine ⟨_, (pss_cons (ps_set (i := 4) nd rfl (by first | exact Or.inl rfl | exact Or.inr rfl) (pe_dget hu (pv 2) (pe_ix (ixt (K := K) rfl) (pv 3) pe_int (fun _ _ => rfl)) (fun _ _ => rfl)))
    (pss_one (ps_ret (pe_callB (cr_allK (K := K) rfl) (by rfl) T.b_all (by decide +kernel) (pa_cons (pe_lc (own := [("piece", 5)]) rfl nd (pi_range2 (by rfl) T.b_range (pa_cons (pe_ix (ixt (K := K) rfl) (pv 3) pe_int (fun _ _ => rfl)) (pa_cons (pe_callB (cr_len (K := K) rfl) (by rfl) T.b_len (by decide +kernel) (pa_cons (pv 4) pa_nil)) pa_nil))) (blkOk_by (own := [("piece", 5)]) (N := n_is_kept) (sc := defScope s_is_kept) (by decide +kernel)) (fun _ _ _ _ _ => (pg_name (i := 5) nd rfl (by first | exact Or.inl rfl | exact Or.inr rfl))) (fun _ _ _ _ _ => pts_nil) (fun _ _ _ _ _ => (pe_cmpR op_ge (pe_ix (ixt (K := K) rfl) (pv 4) (pv 5) (fun _ _ => rfl)) (pe_c (c_told_by T) hr (by decide) rfl (pa_cons (pv 0) (pa_cons (pv 1) (pa_cons (pv 2) (pa_cons (pv 3) (pa_cons (pv 5) pa_nil)))))) (nomark _)))) pa_nil))))), ?_⟩
  obtain ⟨v, lk, d, rd, many, h, st, x, R, rfl, tv, ok, hx, tl, hd, ra, hmany, kf, q⟩ := hsp
  obtain ⟨la, rfl, hla⟩ := link_inv tl
  obtain ⟨kvs, hrd, pk⟩ := ra
  have yn := ok.stn hx
  obtain ⟨ae, e1, e2⟩ := rows_get pk yn.2
  obtain ⟨as, f1, f2⟩ := rows_get pk yn.1
  refine ⟨_, rfl, _, rfl, _, _, 1, _, rfl, rfl, SqT.of hla, atI_nat rfl, rd, .ref ae, rfl, by rw [← e1]; exact DGet.k (k := Sum.inr (h.en x)) hrd, ?_⟩
  have hgr : h.gr x ≤ 100 := by
    have hh := Hall.has_of hx
    cases x with
    | next n => show 1 ≤ 100; decide
    | down i =>
      have := ok.room _ (Hall.belt_mem hh)
      show (h.belt i).first ≤ 100
      omega
    | up i =>
      have := ok.room _ (Hall.belt_mem hh)
      show (h.belt i).room - (h.belt i).first ≤ 100
      omega
  refine ⟨_, rfl, _, _, 2, _, rfl, rfl, SqT.of hla, atI_nat rfl, _, rfl, ae, _, rfl, .inr (SqT.of e2), _, _, rfl, by rw [List.length_map, rowI_len]; omega, fun D hD => ?_⟩
  have el : (((((rowI R (h.en x) many).map V.int).length : Nat) : Int) - (h.gr x : Int)).toNat = many - h.gr x := by
    rw [List.length_map, rowI_len]
    omega
  refine lc_lst (List.range (many - h.gr x)) (walk_rangeL (lo := (h.gr x : Int)) el) hD (fun _ _ => trivial) (fun _ => true) (fun _ => .bool true) (by rw [List.length_range]; omega) (fun i y xv H2 H' hi s hy N R2 n r' => ?_) (fun H2 ys s2 e3 t2 => ?_)
  · obtain ⟨rfl, rfl⟩ := hy
    have iy : y = i := by
      have := (List.getElem?_eq_some_iff.mp hi).2
      simpa using this.symm
    subst iy
    have hy2 : y < many - h.gr x := by
      have := (List.getElem?_eq_some_iff.mp hi).1
      simpa using this
    have ec : (h.gr x : Int) + (y : Int) = ((h.gr x + y : Nat) : Int) := by omega
    dsimp only
    rw [ec]
    refine ⟨rfl, yesT ⟨_, rfl, _, rfl, _, _, _, _, rfl, rfl, SqT.of (s _ _ e2), atI_nat (v := .int (R (h.en x) (h.gr x + y))) (by rw [List.getElem?_map, rowI_get (by omega)]; rfl), ?_⟩⟩
    refine ⟨_, rfl, _, rfl, _, rfl, _, rfl, _, rfl, _, _, d, rd, as, h.gr x + y, h, st, x, kvs, _, R, rfl, tv.m s.tk, ok, hx, tl.m s.tk, s _ _ hd, s _ _ hrd, f1, .inr (s _ _ f2), Nat.le_add_right _ _, by rw [List.getElem?_map, rowI_get (by omega)]; rfl, fun H6 s6 => ⟨_, _, rfl, rfl, ?_⟩⟩
    have hk := kf x hx (h.gr x + y) (by omega) (Nat.le_add_right _ _)
    have : decide (R (h.en x) (h.gr x + y) ≥ tells h st R x (h.gr x + y)) = true := decide_eq_true hk
    dsimp only
    rw [this]
    exact r' _ _ s6 rfl (.bl true)
  · rw [flt_true] at t2
    have ey := TvAll.bls_of (f := fun _ => true) t2
    subst ey
    refine ⟨D, _, rfl, SqL.of e3, ?_⟩
    have : (((List.range (many - h.gr x)).map fun _ => true).all id) = true := by simp
    rw [this]
    exact q _ s2
end
end K41
/-! is_run, is_earlier, greatest and least, floors_of -/
namespace K41
open PySem PySem.Spec PyProof.Rows L2
open C8 (Cal pe_c)
section
variable {P : Program} {w : World} {K : PySem.W.Frag} {mg : Str → Option Value} {base : Heap}
def sp_is_run : Sp := fun vs H Q _ => ∃ (v : V) (d rd : Addr) (many : Nat) (h : Hall) (st : StT) (R : Str → Nat → Int), vs = [v, .ref d, .ref rd] ∧ Tv H v h.py ∧ h.Ok ∧ H d = some (.dT (stK st)) ∧
  RunAt H rd h.names many R ∧ many ≤ 1000 ∧ KeptF h st R many ∧ (∀ n ∈ h.names, ∀ p, p < many → 0 ≤ R n p) ∧ ∀ H', Same H H' → Q (.bl true) H'
theorem c_is_run (T : Txt K mg) : Cal P w K mg base 6 "is_run" (sp_is_run) [] := by
  refine cal_of T.d_is_run sc_is_run (fun vs H Q E h => by first | (obtain ⟨_, rfl, _⟩ := h; rfl) | (obtain ⟨_, _, rfl, _⟩ := h; rfl) | (obtain ⟨_, _, _, rfl, _⟩ := h; rfl) | (obtain ⟨_, _, _, _, rfl, _⟩ := h; rfl) | (obtain ⟨_, _, _, _, _, rfl, _⟩ := h; rfl) | (obtain ⟨_, _, _, _, _, _, rfl, _⟩ := h; rfl) | (obtain ⟨_, _, _, _, _, _, _, rfl, _⟩ := h; rfl) | (obtain ⟨_, _, _, _, _, _, _, _, rfl, _⟩ := h; rfl) | (obtain ⟨_, _, _, _, _, _, _, _, _, rfl, _⟩ := h; rfl) | (obtain ⟨_, _, _, _, _, _, _, _, _, _, rfl, _⟩ := h; rfl) | (obtain ⟨_, _, _, _, _, _, _, _, _, _, _, rfl, _⟩ := h; rfl) | (obtain ⟨_, _, _, _, _, _, _, _, _, _, _, _, rfl, _⟩ := h; rfl)) bi_is_run (fun f cdv A outer s H vs Q E hr hsp => ?_)
  have hu := hu_of hr
  have hu64 := hr.units
  have hu2 := hu2_of hr
  have hu80 := hu80_of hr
  have nd := sc_is_run.nd
  refine ⟨_, (pss_cons (ps_set (i := 3) nd rfl (by first | exact Or.inl rfl | exact Or.inr rfl) (pe_c (c_names_of T) hr (by decide) rfl (pa_cons (pv 0) pa_nil)))
    (pss_cons (ps_if (PW.pt (pw_or (pt_not (pt_val (pe_callB (call_isiK (K := K) rfl) (by rfl) T.b_isinstance (by decide +kernel) (pa_cons (pv 2) (pa_cons (pe_ty (n := "dict") (by rfl) T.b_dict (by decide +kernel)) pa_nil))))) (pw_or (pt_cmpR op_ne (pe_callB call_lenD (by rfl) T.b_len (by decide +kernel) (pa_cons (pv 2) pa_nil)) (pe_callB (cr_len (K := K) rfl) (by rfl) T.b_len (by decide +kernel) (pa_cons (pv 3) pa_nil)) (nomark _)) (pw_or1 (pt_val (pe_callB (cr_anyK (K := K) rfl) (by rfl) T.b_any (by decide +kernel) (pa_cons (pe_lc (own := [("name", 4)]) rfl nd (pit (K := K) rfl (pv 3)) (blkOk_by (own := [("name", 4)]) (N := n_is_run) (sc := defScope s_is_run) (by decide +kernel)) (fun _ _ _ _ _ => (pg_name (i := 4) nd rfl (by first | exact Or.inl rfl | exact Or.inr rfl))) (fun _ _ _ _ _ => pts_nil) (fun _ _ _ _ _ => (pe_cmp (pc_dnotin hu (pv 4) (pv 2)) rfl))) pa_nil))))))) (pss_one (ps_ret pe_bl)) pss_nil)
    (pss_cons (ps_set (i := 5) nd rfl (by first | exact Or.inl rfl | exact Or.inr rfl) (pe_lc (own := [("name", 4)]) rfl nd (pit (K := K) rfl (pv 3)) (blkOk_by (own := [("name", 4)]) (N := n_is_run) (sc := defScope s_is_run) (by decide +kernel)) (fun _ _ _ _ _ => (pg_name (i := 4) nd rfl (by first | exact Or.inl rfl | exact Or.inr rfl))) (fun _ _ _ _ _ => pts_nil) (fun _ _ _ _ _ => (pe_dget hu (pv 2) (pv 4) (fun _ _ => rfl)))))
    (pss_cons (ps_if (pt_not (pt_val (pe_callB (cr_allK (K := K) rfl) (by rfl) T.b_all (by decide +kernel) (pa_cons (pe_lc (own := [("row", 7)]) rfl nd (pil (K := K) rfl (pv 5)) (blkOk_by (own := [("row", 7)]) (N := n_is_run) (sc := defScope s_is_run) (by decide +kernel)) (fun _ _ _ _ _ => (pg_name (i := 7) nd rfl (by first | exact Or.inl rfl | exact Or.inr rfl))) (fun _ _ _ _ _ => pts_nil) (fun _ _ _ _ _ => (pe_and (pe_callB (call_isiK (K := K) rfl) (by rfl) T.b_isinstance (by decide +kernel) (pa_cons (pv 7) (pa_cons (pe_ty (n := "tuple") (by rfl) T.b_tuple (by decide +kernel)) pa_nil))) (pe_one (pe_callB (cr_allK (K := K) rfl) (by rfl) T.b_all (by decide +kernel) (pa_cons (pe_lc (own := [("begin", 6)]) rfl nd (pit (K := K) rfl (pv 7)) (blkOk_by (own := [("begin", 6)]) (N := n_is_run) (by kernel_rfl)) (fun _ _ _ _ _ => (pg_name (i := 6) nd rfl (by first | exact Or.inl rfl | exact Or.inr rfl))) (fun _ _ _ _ _ => pts_nil) (fun _ _ _ _ _ => (pe_c (c_is_count T) hr (by decide) rfl (pa_cons (pv 6) pa_nil)))) pa_nil)))))) pa_nil)))) (pss_one (ps_ret pe_bl)) pss_nil)
    (pss_cons (ps_if (pt_val (pe_callB (cr_anyK (K := K) rfl) (by rfl) T.b_any (by decide +kernel) (pa_cons (pe_lc (own := [("row", 7)]) rfl nd (pil (K := K) rfl (pv 5)) (blkOk_by (own := [("row", 7)]) (N := n_is_run) (sc := defScope s_is_run) (by decide +kernel)) (fun _ _ _ _ _ => (pg_name (i := 7) nd rfl (by first | exact Or.inl rfl | exact Or.inr rfl))) (fun _ _ _ _ _ => pts_nil) (fun _ _ _ _ _ => (pe_cmpR op_ne (pe_callB (cr_len (K := K) rfl) (by rfl) T.b_len (by decide +kernel) (pa_cons (pv 7) pa_nil)) (pe_callB (cr_len (K := K) rfl) (by rfl) T.b_len (by decide +kernel) (pa_cons (pe_ix (ixl (K := K) rfl) (pv 5) pe_int (fun _ _ => rfl)) pa_nil)) (nomark _)))) pa_nil))) (pss_one (ps_ret pe_bl)) pss_nil)
    (pss_one (ps_ret (pe_callB (cr_allK (K := K) rfl) (by rfl) T.b_all (by decide +kernel) (pa_cons (pe_lc (own := [("link", 8)]) rfl nd (pil (K := K) rfl (pe_c (c_links_of T) hr (by decide) rfl (pa_cons (pv 0) pa_nil))) (blkOk_by (own := [("link", 8)]) (N := n_is_run) (sc := defScope s_is_run) (by decide +kernel)) (fun _ _ _ _ _ => (pg_name (i := 8) nd rfl (by first | exact Or.inl rfl | exact Or.inr rfl))) (fun _ _ _ _ _ => pts_nil) (fun _ _ _ _ _ => (pe_c (c_is_kept T) hr (by decide) rfl (pa_cons (pv 0) (pa_cons (pv 1) (pa_cons (pv 2) (pa_cons (pv 8) pa_nil))))))) pa_nil))))))))), ?_⟩
  obtain ⟨v, d, rd, many, h, st, R, rfl, tv, ok, hd, ra, hmany, kf, nn, q⟩ := hsp
  have hnl : h.names.length = h.ms.length := by rw [Hall.names, List.length_map]
  have n4 := ok.n4
  have n1 := ok.n1
  obtain ⟨kvs, hrd, pk⟩ := ra
  have kl : kvs.length = h.names.length := (Paired.length pk).symm
  refine ⟨_, rfl, _, h, rfl, tv, by omega, fun v1 H1 s1 t1 => ?_⟩
  obtain ⟨a1, xs1, rfl, h1, tx⟩ := t1.tup_inv
  have hrd1 := s1 _ _ hrd
  refine ⟨_, rfl, _, _, _, _, true, rfl, .ty "dict", .base (.dK hrd1), kit_ty (by decide +kernel), _, rfl, iteF ?_⟩
  refine ⟨_, rfl, rd, kvs, rfl, hrd1, _, rfl, a1, xs1, rfl, .inr (SqT.of h1), rfl, _, rfl, iteNS (by rw [kl, tx.lenm]) ?_⟩
  refine ⟨_, rfl, _, rfl, ⟨_, SqT.of h1⟩, fun D hD => ?_⟩
  refine lc_lst h.names (walk_tupL (K := K) tx.lenm) hD (fun H s => SqT.of (s _ _ h1)) (fun _ => true) (fun _ => .bool false) (by omega) (fun i n x H2 H' hi s hy N R2 _ r' => ?_) (fun H2 ys s2 e2 t2 => ?_)
  · obtain ⟨rfl, hx⟩ := hy
    obtain ⟨v5, e1, e2⟩ := (tx.m s.tk).at hi
    rw [e1] at hx
    cases hx
    cases e2
    obtain ⟨ae, f1, f2⟩ := rows_get pk (List.mem_of_getElem? hi)
    refine ⟨rfl, yesT ⟨_, rfl, _, rfl, rd, _, rfl, DGet.k (k := Sum.inr n) (s _ _ hrd1), ?_⟩⟩
    rw [f1]
    exact r' _ _ (Same.refl _) rfl (.bl false)
  rw [flt_true] at t2
  have ey := TvAll.bls_of (f := fun _ => false) t2
  subst ey
  have hany : ((h.names.map fun _ => false).any id) = false := by simp
  refine ⟨D, _, rfl, SqL.of e2, ?_⟩
  rw [hany]
  refine ⟨_, rfl, iteF ?_⟩
  have h12 := s2 _ _ h1
  have tx2 := tx.m s2.tk
  have s12 := s1.trans s2
  have hrd2 := s12 _ _ hrd
  -- the rows
  refine ⟨_, rfl, _, rfl, ⟨_, SqT.of h12⟩, fun D3 hD3 => ?_⟩
  refine lc_lst h.names (walk_tupL (K := K) tx2.lenm) hD3 (fun H s => SqT.of (s _ _ h12)) (fun _ => true) (rowD R many) (by omega) (fun i n x H3 H' hi s hy N R2 _ r' => ?_) (fun H3 ys3 s3 e3 t3 => ?_)
  · obtain ⟨rfl, hx⟩ := hy
    obtain ⟨v5, e1, e2⟩ := (tx2.m s.tk).at hi
    rw [e1] at hx
    cases hx
    cases e2
    obtain ⟨vv, f1, f2⟩ := keys_get (G := fun n v => Tv H v (rowD R many n)) pk (List.mem_of_getElem? hi)
    exact ⟨rfl, yesT ⟨_, rfl, _, rfl, rd, vv, rfl, by rw [← f1]; exact DGet.k (k := Sum.inr n) (s _ _ hrd2), r' _ _ (Same.refl _) rfl (f2.m (s12.trans s).tk)⟩⟩
  rw [flt_true] at t3
  have s13 := s12.trans s3
  refine ⟨_, rfl, _, rfl, ⟨_, SqL.of e3⟩, fun D4 hD4 => ?_⟩
  refine lc_lst h.names (walk_listL (K := K) t3.lenm) hD4 (fun H s => SqL.of (s _ _ e3)) (fun _ => true) (fun _ => .bool true) (by omega) (fun i n x H4 H' hi s hy N R2 _ r' => ?_) (fun H4 ys4 s4 e4 t4 => ?_)
  · obtain ⟨rfl, hx⟩ := hy
    obtain ⟨v5, e1, e2⟩ := (t3.m s.tk).at hi
    rw [e1] at hx
    cases hx
    have hn := List.mem_of_getElem? hi
    obtain ⟨ap, xs, rfl, hap, txr⟩ := Tv.tup_inv e2
    have exs := txr.ints_inv
    subst exs
    refine ⟨rfl, yesT ⟨_, rfl, _, _, _, _, true, rfl, .ty "tuple", .base (.tup hap), kit_ty (by decide +kernel), _, rfl, iteT ?_⟩⟩
    refine ⟨_, rfl, _, rfl, ⟨_, SqT.of hap⟩, fun D5 hD5 => ?_⟩
    refine lc_lst (rowI R n many) (walk_tupL (K := K) (by rw [List.length_map])) hD5 (fun H s => SqT.of (s _ _ hap)) (fun _ => true) (fun _ => .bool true) (by rw [rowI_len]; omega) (fun i2 b x H5 H6 hi2 s5 hy2 N2 R3 _ r2 => ?_) (fun H5 ys5 s5 e5 t5 => ?_)
    · obtain ⟨rfl, hx2⟩ := hy2
      rw [List.getElem?_map, hi2] at hx2
      cases hx2
      have h0 : 0 ≤ b := by
        rw [rowI, List.getElem?_map] at hi2
        obtain ⟨p, p1, p2⟩ := Option.map_eq_some_iff.mp hi2
        have := (List.getElem?_eq_some_iff.mp p1)
        obtain ⟨q1, q2⟩ := this
        rw [List.length_range] at q1
        rw [List.getElem_range] at q2
        subst q2
        rw [← p2]
        exact nn n hn _ q1
      exact ⟨rfl, yesT ⟨_, rfl, b, rfl, h0, r2 _ _ (Same.refl _) rfl (.bl true)⟩⟩
    · rw [flt_true] at t5
      have ey5 := TvAll.bls_of (f := fun _ => true) t5
      subst ey5
      have hall : (((rowI R n many).map fun _ => true).all id) = true := by simp
      refine ⟨D5, _, rfl, SqL.of e5, ?_⟩
      rw [hall]
      exact r' _ _ s5 rfl (.bl true)
  rw [flt_true] at t4
  have ey4 := TvAll.bls_of (f := fun _ => true) t4
  subst ey4
  have hall4 : ((h.names.map fun _ => true).all id) = true := by simp
  refine ⟨D4, _, rfl, SqL.of e4, ?_⟩
  rw [hall4]
  refine ⟨_, rfl, iteF ?_⟩
  have e34 := s4 _ _ e3
  have t34 := t3.m s4.tk
  have s14 := s13.trans s4
  refine ⟨_, rfl, _, rfl, ⟨_, SqL.of e34⟩, fun D6 hD6 => ?_⟩
  refine lc_lst h.names (walk_listL (K := K) t34.lenm) hD6 (fun H s => SqL.of (s _ _ e34)) (fun _ => true) (fun _ => .bool false) (by omega) (fun i n x H6 H' hi s hy N R2 _ r' => ?_) (fun H6 ys6 s6 e6 t6 => ?_)
  · obtain ⟨rfl, hx⟩ := hy
    obtain ⟨v5, e1, e2⟩ := (t34.m s.tk).at hi
    rw [e1] at hx
    cases hx
    obtain ⟨ap, xs, rfl, hap, txr⟩ := Tv.tup_inv e2
    have en0 : h.names[0]? = some (h.names[0]'(by omega)) := List.getElem?_eq_getElem _
    obtain ⟨v0, e01, e02⟩ := (t34.m s.tk).at en0
    obtain ⟨ap0, xs0, rfl, hap0, txr0⟩ := Tv.tup_inv e02
    refine ⟨rfl, yesT ⟨_, rfl, ap, xs, rfl, .inr (SqT.of hap), _, rfl, _, _, 0, _, rfl, rfl, SqL.of (s _ _ e34), atI_nat e01, ap0, xs0, rfl, .inr (SqT.of hap0), rfl, ?_⟩⟩
    have l1 : xs.length = many := by rw [txr.len, List.length_map, rowI_len]
    have l2 : xs0.length = many := by rw [txr0.len, List.length_map, rowI_len]
    have : (!decide (V.int (xs.length : Nat) = V.int (xs0.length : Nat))) = false := by rw [l1, l2]; simp
    rw [this]
    exact r' _ _ (Same.refl _) rfl (.bl false)
  rw [flt_true] at t6
  have ey6 := TvAll.bls_of (f := fun _ => false) t6
  subst ey6
  refine ⟨D6, _, rfl, SqL.of e6, ?_⟩
  rw [hany]
  refine ⟨_, rfl, iteF ?_⟩
  have s16 := s14.trans s6
  refine ⟨_, rfl, _, h, rfl, tv.m s16.tk, ok, fun pl H7 ysl s7 hpl el tl => ⟨_, rfl, ⟨_, SqL.of el⟩, fun D8 hD8 => ?_⟩⟩
  have s17 := s16.trans s7
  refine lc_lst h.arcs (walk_listL (K := K) tl.lenm) hD8 (fun H s => SqL.of (s _ _ el)) (fun _ => true) (fun _ => .bool true) (by have := arcs_len ok; omega) (fun i y x H8 H' hi s hy N R2 _ r' => ?_) (fun H8 ys8 s8 e8 t8 => ?_)
  · obtain ⟨rfl, hx⟩ := hy
    obtain ⟨v5, e1, e2⟩ := (tl.m s.tk).at hi
    rw [e1] at hx
    cases hx
    have s18 := s17.trans s
    exact ⟨rfl, yesT ⟨_, rfl, _, rfl, _, rfl, _, rfl, v, _, d, rd, many, h, st, y, R, rfl, tv.m s18.tk, ok, List.mem_of_getElem? hi, e2, s18 _ _ hd, RunAt.m ⟨kvs, hrd, pk⟩ s18, hmany, kf, fun H9 s9 => r' _ _ s9 rfl (.bl true)⟩⟩
  · rw [flt_true] at t8
    have ey8 := TvAll.bls_of (f := fun _ => true) t8
    subst ey8
    have hall8 : ((h.arcs.map fun _ => true).all id) = true := by simp
    refine ⟨D8, _, rfl, SqL.of e8, ?_⟩
    rw [hall8]
    exact q _ (s17.trans s8)
def sp_is_earlier : Sp := fun vs H Q _ => ∃ (a b : Addr) (many : Nat) (ns : List Str) (R R' : Str → Nat → Int), vs = [.ref a, .ref b] ∧ RunAt H a ns many R ∧ RunAt H b ns many R' ∧ a ≠ b ∧ ns.Nodup ∧ ns.length ≤ 60 ∧ many ≤ 1000 ∧ (∀ n ∈ ns, ∀ p, p < many → R n p ≤ R' n p) ∧ ∀ H', Same H H' → Q (.bl true) H'
theorem c_is_earlier (T : Txt K mg) : Cal P w K mg base 1 "is_earlier" (sp_is_earlier) [] := by
  refine cal_of T.d_is_earlier sc_is_earlier (fun vs H Q E h => by first | (obtain ⟨_, rfl, _⟩ := h; rfl) | (obtain ⟨_, _, rfl, _⟩ := h; rfl) | (obtain ⟨_, _, _, rfl, _⟩ := h; rfl) | (obtain ⟨_, _, _, _, rfl, _⟩ := h; rfl) | (obtain ⟨_, _, _, _, _, rfl, _⟩ := h; rfl) | (obtain ⟨_, _, _, _, _, _, rfl, _⟩ := h; rfl) | (obtain ⟨_, _, _, _, _, _, _, rfl, _⟩ := h; rfl) | (obtain ⟨_, _, _, _, _, _, _, _, rfl, _⟩ := h; rfl) | (obtain ⟨_, _, _, _, _, _, _, _, _, rfl, _⟩ := h; rfl) | (obtain ⟨_, _, _, _, _, _, _, _, _, _, rfl, _⟩ := h; rfl) | (obtain ⟨_, _, _, _, _, _, _, _, _, _, _, rfl, _⟩ := h; rfl) | (obtain ⟨_, _, _, _, _, _, _, _, _, _, _, _, rfl, _⟩ := h; rfl)) bi_is_earlier (fun f cdv A outer s H vs Q E hr hsp => ?_)
  have hu := hu_of hr
  have hu64 := hr.units
  have hu2 := hu2_of hr
  have hu80 := hu80_of hr
  have nd := sc_is_earlier.nd
  refine ⟨_, (pss_one (ps_ret (pe_callB (cr_allK (K := K) rfl) (by rfl) T.b_all (by decide +kernel) (pa_cons (pe_lock (pe_lc2 (own := [("name", 2), ("mine", 3), ("its", 4)]) (vs1 := [3, 4]) rfl nd (pi_keys (pv 0)) (blkOk_by (own := [("name", 2), ("mine", 3), ("its", 4)]) (N := n_is_earlier) (sc := defScope s_is_earlier) (by decide +kernel)) (by decide) (fun _ _ _ _ _ => (pg_name (i := 2) nd rfl (by first | exact Or.inl rfl | exact Or.inr rfl))) (fun _ _ _ _ _ => pts_nil) (fun _ _ _ _ _ => (pi_zT (K := K) rfl (by rfl) T.b_zip (pa_cons (pe_dget hu (pv 0) (pv 2) (fun _ _ => rfl)) (pa_cons (pe_dget hu (pv 1) (pv 2) (fun _ _ => rfl)) pa_nil)))) (fun _ _ _ _ _ => (pgt (K := K) (n := 2) rfl (pgs_cons (pg_name (i := 3) nd rfl (by first | exact Or.inl rfl | exact Or.inr rfl)) (pgs_cons (pg_name (i := 4) nd rfl (by first | exact Or.inl rfl | exact Or.inr rfl)) pgs_nil)))) (fun _ _ _ _ _ => pts_nil) (fun _ _ _ _ _ => (pe_cmpR op_le (pv 3) (pv 4) (nomark _))))) pa_nil)))), ?_⟩
  obtain ⟨a, b, many, ns, R, R', rfl, ra, rb, hab, nd', hl, hm, hle, q⟩ := hsp
  obtain ⟨ka, ha, pa'⟩ := ra
  obtain ⟨kb, hb, pb⟩ := rb
  have kl : ka.length = ns.length := (Paired.length pa').symm
  refine ⟨a, _, ha, trivial, fun od => ⟨_, rfl, a, od, rfl, .inl ⟨_, upd_same, fun D hD => ?_⟩⟩⟩
  have wk : Walk (Itk a od ka) ns.length (fun H => H a = some (.frz od (.dK ka))) (fun i H x H' => H' = H ∧ ∃ k v, ka[i]? = some (k, v) ∧ x = kV k) := by
    have := walk_keys (d := a) (o := od) (kvs := ka)
    rwa [kl] at this
  have eF := upd_same (H := H) (a := a) (o := .frz od (.dK ka))
  have hb1 : (upd H a (.frz od (.dK ka))) b = some (.dK kb) := by rw [upd_ne (Ne.symm hab)]; exact hb
  have tk1 : TK H (upd H a (.frz od (.dK ka))) := lock_tk ha (by intro xs z; cases z)
  have Da : D ≠ a := fun z => by subst z; rw [hD] at eF; cases eF
  have pa1 := Paired.mapP pa' fun n (q : Key × V) hq => (⟨hq.1, hq.2.m tk1⟩ : q.1 = Sum.inr n ∧ Tv (upd H a (.frz od (.dK ka))) q.2 (rowD R many n))
  have pb1 := Paired.mapP pb fun n (q : Key × V) hq => (⟨hq.1, hq.2.m tk1⟩ : q.1 = Sum.inr n ∧ Tv (upd H a (.frz od (.dK ka))) q.2 (rowD R' many n))
  have hDH : H D = none := by rw [upd_ne Da] at hD; exact hD
  have back : ∀ H', Same (upd H a (.frz od (.dK ka))) H' → Same H (upd H' a (.dK ka)) := fun H' s => unlock_same ha s
  generalize upd H a (.frz od (.dK ka)) = H1 at hD eF hb1 tk1 pa1 pb1 back ⊢
  have mul1 : ∀ i, i < ns.length → (i + 1) * many ≤ 60 * 1000 := fun i hi => Nat.mul_le_mul (by omega) hm
  refine ⟨fun i m H' => m = ns.length - i ∧ i ≤ ns.length ∧ Same H1 H' ∧ ∃ bs : List Bool, H' D = some (.lst (bs.map .bl)) ∧ bs.all id = true ∧ bs.length ≤ i * many, ⟨ns.length, by simp, Nat.zero_le _, Same.new hD, [], upd_same, rfl, Nat.zero_le _⟩, ?_⟩
  rintro i m H2 ⟨rfl, hi, s2, bs, e2, b2, l2⟩
  by_cases hlt : i < ns.length
  · refine .inr ⟨wk.goes i H2 hlt (s2 _ _ eF), fun H' => Same H1 H' ∧ ∃ bs : List Bool, H' D = some (.lst (bs.map .bl)) ∧ bs.all id = true ∧ bs.length ≤ (i + 1) * many, fun H' q => ⟨ns.length - (i + 1), by omega, rfl, hlt, q⟩, fun x H' y => ?_⟩
    obtain ⟨rfl, k, vv, hk, rfl⟩ := wk.yields i H2 x H' hlt (s2 _ _ eF) y
    have en : ns[i]? = some ns[i] := List.getElem?_eq_getElem hlt
    obtain ⟨⟨k2, v2⟩, g1, g2⟩ := Paired.get pa1 en
    rw [hk] at g1
    cases g1
    obtain ⟨rfl, -⟩ := g2
    have hn := List.mem_of_getElem? en
    generalize ns[i] = n at hk en hn ⊢
    obtain ⟨aa, fa, ga⟩ := rows_get pa1 hn
    obtain ⟨ab, fb, gb⟩ := rows_get pb1 hn
    have gaH := s2 _ _ ga
    have gbH := s2 _ _ gb
    refine ⟨rfl, yesG ?_⟩
    refine ⟨_, rfl, _, rfl, a, .ref aa, rfl, .inl ⟨_, Sum.inr n, .inr ⟨od, s2 _ _ eF⟩, rfl, fa.symm⟩, _, rfl, _, rfl, b, .ref ab, rfl, by rw [← fb]; exact DGet.k (k := Sum.inr n) (s2 _ _ hb1), aa, ab, _, _, rfl, .inr ⟨SqT.of gaH, SqT.of gbH, ?_⟩⟩
    have wz : Walk (RZ.ItzT K aa ab) many (fun H => SqT K H aa ((rowI R n many).map V.int) ∧ SqT K H ab ((rowI R' n many).map V.int)) (YPair (fun i => ((rowI R n many).map V.int)[i]?) (fun i => ((rowI R' n many).map V.int)[i]?)) := walk_zipT (by rw [List.length_map, List.length_map, rowI_len, rowI_len, Nat.min_self])
    refine ⟨fun j k H' => k = many - j ∧ j ≤ many ∧ Same H1 H' ∧ ∃ bs : List Bool, H' D = some (.lst (bs.map .bl)) ∧ bs.all id = true ∧ bs.length ≤ i * many + j, ⟨many, by simp, Nat.zero_le _, s2, bs, e2, b2, by omega⟩, ?_⟩
    rintro j k' H3 ⟨rfl, hj, s3, cs, e3, b3, l3⟩
    have gd3 : SqT K H3 aa ((rowI R n many).map V.int) ∧ SqT K H3 ab ((rowI R' n many).map V.int) := ⟨SqT.of (s3 _ _ ga), SqT.of (s3 _ _ gb)⟩
    by_cases hjl : j < many
    · refine .inr ⟨wz.goes j H3 hjl gd3, fun H' => Same H1 H' ∧ ∃ bs : List Bool, H' D = some (.lst (bs.map .bl)) ∧ bs.all id = true ∧ bs.length ≤ i * many + (j + 1), fun H' q => ⟨many - (j + 1), by omega, rfl, hjl, q⟩, fun x H4 y => ?_⟩
      obtain ⟨T2, x1, x2, rfl, hT, rfl, g1, g2⟩ := wz.yields j H3 x H4 hjl gd3 y
      dsimp only at g1 g2
      rw [List.getElem?_map, rowI_get hjl] at g1 g2
      cases g1
      cases g2
      have s4 : Same H3 (upd H3 T2 (.tup [.int (R n j), .int (R' n j)])) := Same.new hT
      have e4 := s4 _ _ e3
      refine ⟨_, _, rfl, SqT.of upd_same, rfl, _, _, rfl, _, _, rfl, rfl, rfl, yesG ⟨_, rfl, _, rfl, _, _, rfl, rfl, cs.map .bl, e4, ?_, ?_⟩⟩
      · rw [List.length_map]
        have := mul1 i hlt
        rw [Nat.succ_mul] at this
        exact smallL (by omega)
      · have : decide (R n j ≤ R' n j) = true := decide_eq_true (hle n hn j hjl)
        dsimp only
        rw [this]
        refine ⟨(s3.trans s4).mut hD, cs ++ [true], by rw [List.map_append]; exact upd_same, by rw [List.all_append, b3]; rfl, by rw [List.length_append, List.length_singleton]; omega⟩
    · have ej : j = many := by omega
      subst ej
      exact .inl ⟨wz.stops H3 gd3, s3, cs, e3, b3, by rw [Nat.succ_mul]; exact l3⟩
  · have ei : i = ns.length := by omega
    subst ei
    refine .inl ⟨wk.stops H2 (s2 _ _ eF), s2 _ _ eF, D, bs, rfl, SqL.of ?_, ?_⟩
    · rw [upd_ne Da]
      exact e2
    · rw [b2]
      exact q _ (back _ s2)
def sp_greatest_run : Sp := fun vs H Q _ => ∃ (a b : Addr) (many : Nat) (ns ms : List Str) (R R' : Str → Nat → Int), vs = [.ref a, .ref b] ∧ RunAt H a ns many R ∧ RunAt H b ms many R' ∧ (∀ n ∈ ns, n ∈ ms) ∧ ns.Nodup ∧ sortedS ns = true ∧ ns.length ≤ 60 ∧ many ≤ 1000 ∧
  ∀ p H', Same H H' → H p = none → RunAt H' p ns many (fun n q => if R' n q > R n q then R' n q else R n q) → Q (.ref p) H'
theorem c_greatest_run (T : Txt K mg) : Cal P w K mg base 1 "greatest_run" (sp_greatest_run) [] := by
  refine cal_of T.d_greatest_run sc_greatest_run (fun vs H Q E h => by first | (obtain ⟨_, rfl, _⟩ := h; rfl) | (obtain ⟨_, _, rfl, _⟩ := h; rfl) | (obtain ⟨_, _, _, rfl, _⟩ := h; rfl) | (obtain ⟨_, _, _, _, rfl, _⟩ := h; rfl) | (obtain ⟨_, _, _, _, _, rfl, _⟩ := h; rfl) | (obtain ⟨_, _, _, _, _, _, rfl, _⟩ := h; rfl) | (obtain ⟨_, _, _, _, _, _, _, rfl, _⟩ := h; rfl) | (obtain ⟨_, _, _, _, _, _, _, _, rfl, _⟩ := h; rfl) | (obtain ⟨_, _, _, _, _, _, _, _, _, rfl, _⟩ := h; rfl) | (obtain ⟨_, _, _, _, _, _, _, _, _, _, rfl, _⟩ := h; rfl) | (obtain ⟨_, _, _, _, _, _, _, _, _, _, _, rfl, _⟩ := h; rfl) | (obtain ⟨_, _, _, _, _, _, _, _, _, _, _, _, rfl, _⟩ := h; rfl)) bi_greatest_run (fun f cdv A outer s H vs Q E hr hsp => ?_)
  have hu := hu_of hr
  have hu64 := hr.units
  have hu2 := hu2_of hr
  have hu80 := hu80_of hr
  have nd := sc_greatest_run.nd
  refine ⟨_, (pss_one (ps_ret (pe_dc (own := [("name", 4)]) rfl nd (pil (K := K) rfl (pe_callB (call_sortedD rfl) (by rfl) T.b_sorted (by decide +kernel) (pa_cons (pv 0) pa_nil))) (blkOk_by (own := [("name", 4)]) (N := n_greatest_run) (sc := defScope s_greatest_run) (by decide +kernel)) (fun _ _ _ _ _ => (pg_name (i := 4) nd rfl (by first | exact Or.inl rfl | exact Or.inr rfl))) (fun _ _ _ _ _ => pts_nil) (fun _ _ _ _ _ => (pv 4)) (fun _ _ _ _ _ => (pe_callTy (cr_tuple (K := K) rfl) (by rfl) T.b_tuple (by decide +kernel) (pa_cons (pe_lc (own := [("mine", 2), ("its", 3)]) rfl nd (pi_zT (K := K) rfl (by rfl) T.b_zip (pa_cons (pe_dget hu (pv 0) (pv 4) (fun _ _ => rfl)) (pa_cons (pe_dget hu (pv 1) (pv 4) (fun _ _ => rfl)) pa_nil))) (blkOk_by (own := [("mine", 2), ("its", 3)]) (N := n_greatest_run) (by kernel_rfl)) (fun _ _ _ _ _ => (pgt (K := K) (n := 2) rfl (pgs_cons (pg_name (i := 2) nd rfl (by first | exact Or.inl rfl | exact Or.inr rfl)) (pgs_cons (pg_name (i := 3) nd rfl (by first | exact Or.inl rfl | exact Or.inr rfl)) pgs_nil)))) (fun _ _ _ _ _ => pts_nil) (fun _ _ _ _ _ => (pe_callB (call_max2 rfl) (by rfl) T.b_max (by decide +kernel) (pa_cons (pv 2) (pa_cons (pv 3) pa_nil))))) pa_nil)))))), ?_⟩
  obtain ⟨a, b, many, ns, ms, R, R', rfl, ra, rb, sub, nd', so, hl, hm, q⟩ := hsp
  obtain ⟨ka, ha, pa'⟩ := ra
  obtain ⟨kb, hb, pb⟩ := rb
  refine ⟨_, rfl, a, ka, ns, rfl, .inl ha, RunAt.keys pa', by omega, fun ys p perm so' hp => ?_⟩
  have en := sorted_uniq perm so' so
  subst en
  refine ⟨_, rfl, ⟨_, SqL.of upd_same⟩, fun D hD => ?_⟩
  have s1 : Same H (upd H p (.lst (ys.map V.str))) := Same.new hp
  have e1 : (upd H p (.lst (ys.map V.str))) p = some (.lst (ys.map V.str)) := upd_same
  generalize upd H p (.lst (ys.map V.str)) = H1 at hD s1 e1 ⊢
  refine dc_gen (ns := ys) (walk_listL (K := K) (by rw [List.length_map])) hD nd' (fun H s => SqL.of (s _ _ e1)) (fun n v H => Tv H v (rowD (fun n q => if R' n q > R n q then R' n q else R n q) many n)) (fun n v H H' k t => t.m k.tk) (by omega) (fun i n x H2 H' hi s hy N R2 r' => ?_)
    (fun H2 kvs s2 e2 p2 => q D _ (s1.trans s2) (s1.free hD) ⟨kvs, e2, p2⟩)
  obtain ⟨rfl, hx⟩ := hy
  rw [List.getElem?_map, hi] at hx
  cases hx
  have hn := List.mem_of_getElem? hi
  obtain ⟨aa, fa, ga⟩ := rows_get pa' hn
  obtain ⟨ab, fb, gb⟩ := rows_get pb (sub _ hn)
  have sH := s1.trans s
  refine ⟨rfl, yesG ⟨_, rfl, _, rfl, _, rfl, a, .ref aa, rfl, by rw [← fa]; exact DGet.k (k := Sum.inr n) (sH _ _ ha), _, rfl, _, rfl, b, .ref ab, rfl, by rw [← fb]; exact DGet.k (k := Sum.inr n) (sH _ _ hb), aa, ab, _, _, rfl, .inr ⟨SqT.of (sH _ _ ga), SqT.of (sH _ _ gb), fun D2 hD2 => ?_⟩⟩⟩
  have gaH := sH _ _ ga
  have gbH := sH _ _ gb
  refine lc_lst (List.range many) (walk_zipT (K := K) (n := (List.range many).length) (by rw [List.length_map, List.length_map, rowI_len, rowI_len, List.length_range, Nat.min_self])) hD2 (fun H s => ⟨SqT.of (s _ _ gaH), SqT.of (s _ _ gbH)⟩) (fun _ => true) (fun p => .int (if R' n p > R n p then R' n p else R n p)) (by rw [List.length_range]; omega)
    (fun i2 p x H3 H4 hi2 s3 hy2 N2 R3 _ r2 => ?_) (fun H3 ys3 s3 e3 t3 => ?_)
  · obtain ⟨T2, x1, x2, rfl, hT, rfl, g1, g2⟩ := hy2
    have hp2 : i2 < many ∧ p = i2 := by
      have := List.getElem?_eq_some_iff.mp hi2
      obtain ⟨q1, q2⟩ := this
      rw [List.length_range] at q1
      rw [List.getElem_range] at q2
      exact ⟨q1, q2.symm⟩
    obtain ⟨hp2, rfl⟩ := hp2
    dsimp only at g1 g2
    rw [List.getElem?_map, rowI_get hp2] at g1 g2
    cases g1
    cases g2
    exact ⟨_, _, rfl, SqT.of upd_same, rfl, _, _, rfl, _, _, rfl, rfl, rfl, yesT ⟨_, rfl, _, rfl, _, _, rfl, r2 _ _ (Same.new hT) rfl (.int _)⟩⟩
  · rw [flt_true] at t3
    have eys := TvAll.ints_of t3
    refine ⟨_, _, rfl, SqL.of e3, fun l hl2 => r' _ _ (s3.trans (Same.new hl2)) (.tup upd_same ?_)⟩
    rw [eys]
    exact TvAll.ints _
def sp_least_run : Sp := fun vs H Q _ => ∃ (a b : Addr) (many : Nat) (ns ms : List Str) (R R' : Str → Nat → Int), vs = [.ref a, .ref b] ∧ RunAt H a ns many R ∧ RunAt H b ms many R' ∧ (∀ n ∈ ns, n ∈ ms) ∧ ns.Nodup ∧ sortedS ns = true ∧ ns.length ≤ 60 ∧ many ≤ 1000 ∧
  ∀ p H', Same H H' → H p = none → RunAt H' p ns many (fun n q => if R' n q < R n q then R' n q else R n q) → Q (.ref p) H'
theorem c_least_run (T : Txt K mg) : Cal P w K mg base 1 "least_run" (sp_least_run) [] := by
  refine cal_of T.d_least_run sc_least_run (fun vs H Q E h => by first | (obtain ⟨_, rfl, _⟩ := h; rfl) | (obtain ⟨_, _, rfl, _⟩ := h; rfl) | (obtain ⟨_, _, _, rfl, _⟩ := h; rfl) | (obtain ⟨_, _, _, _, rfl, _⟩ := h; rfl) | (obtain ⟨_, _, _, _, _, rfl, _⟩ := h; rfl) | (obtain ⟨_, _, _, _, _, _, rfl, _⟩ := h; rfl) | (obtain ⟨_, _, _, _, _, _, _, rfl, _⟩ := h; rfl) | (obtain ⟨_, _, _, _, _, _, _, _, rfl, _⟩ := h; rfl) | (obtain ⟨_, _, _, _, _, _, _, _, _, rfl, _⟩ := h; rfl) | (obtain ⟨_, _, _, _, _, _, _, _, _, _, rfl, _⟩ := h; rfl) | (obtain ⟨_, _, _, _, _, _, _, _, _, _, _, rfl, _⟩ := h; rfl) | (obtain ⟨_, _, _, _, _, _, _, _, _, _, _, _, rfl, _⟩ := h; rfl)) bi_least_run (fun f cdv A outer s H vs Q E hr hsp => ?_)
  have hu := hu_of hr
  have hu64 := hr.units
  have hu2 := hu2_of hr
  have hu80 := hu80_of hr
  have nd := sc_least_run.nd
  refine ⟨_, (pss_one (ps_ret (pe_dc (own := [("name", 4)]) rfl nd (pil (K := K) rfl (pe_callB (call_sortedD rfl) (by rfl) T.b_sorted (by decide +kernel) (pa_cons (pv 0) pa_nil))) (blkOk_by (own := [("name", 4)]) (N := n_least_run) (sc := defScope s_least_run) (by decide +kernel)) (fun _ _ _ _ _ => (pg_name (i := 4) nd rfl (by first | exact Or.inl rfl | exact Or.inr rfl))) (fun _ _ _ _ _ => pts_nil) (fun _ _ _ _ _ => (pv 4)) (fun _ _ _ _ _ => (pe_callTy (cr_tuple (K := K) rfl) (by rfl) T.b_tuple (by decide +kernel) (pa_cons (pe_lc (own := [("mine", 2), ("its", 3)]) rfl nd (pi_zT (K := K) rfl (by rfl) T.b_zip (pa_cons (pe_dget hu (pv 0) (pv 4) (fun _ _ => rfl)) (pa_cons (pe_dget hu (pv 1) (pv 4) (fun _ _ => rfl)) pa_nil))) (blkOk_by (own := [("mine", 2), ("its", 3)]) (N := n_least_run) (by kernel_rfl)) (fun _ _ _ _ _ => (pgt (K := K) (n := 2) rfl (pgs_cons (pg_name (i := 2) nd rfl (by first | exact Or.inl rfl | exact Or.inr rfl)) (pgs_cons (pg_name (i := 3) nd rfl (by first | exact Or.inl rfl | exact Or.inr rfl)) pgs_nil)))) (fun _ _ _ _ _ => pts_nil) (fun _ _ _ _ _ => (pe_callB (call_min2 rfl) (by rfl) T.b_min (by decide +kernel) (pa_cons (pv 2) (pa_cons (pv 3) pa_nil))))) pa_nil)))))), ?_⟩
  obtain ⟨a, b, many, ns, ms, R, R', rfl, ra, rb, sub, nd', so, hl, hm, q⟩ := hsp
  obtain ⟨ka, ha, pa'⟩ := ra
  obtain ⟨kb, hb, pb⟩ := rb
  refine ⟨_, rfl, a, ka, ns, rfl, .inl ha, RunAt.keys pa', by omega, fun ys p perm so' hp => ?_⟩
  have en := sorted_uniq perm so' so
  subst en
  refine ⟨_, rfl, ⟨_, SqL.of upd_same⟩, fun D hD => ?_⟩
  have s1 : Same H (upd H p (.lst (ys.map V.str))) := Same.new hp
  have e1 : (upd H p (.lst (ys.map V.str))) p = some (.lst (ys.map V.str)) := upd_same
  generalize upd H p (.lst (ys.map V.str)) = H1 at hD s1 e1 ⊢
  refine dc_gen (ns := ys) (walk_listL (K := K) (by rw [List.length_map])) hD nd' (fun H s => SqL.of (s _ _ e1)) (fun n v H => Tv H v (rowD (fun n q => if R' n q < R n q then R' n q else R n q) many n)) (fun n v H H' k t => t.m k.tk) (by omega) (fun i n x H2 H' hi s hy N R2 r' => ?_)
    (fun H2 kvs s2 e2 p2 => q D _ (s1.trans s2) (s1.free hD) ⟨kvs, e2, p2⟩)
  obtain ⟨rfl, hx⟩ := hy
  rw [List.getElem?_map, hi] at hx
  cases hx
  have hn := List.mem_of_getElem? hi
  obtain ⟨aa, fa, ga⟩ := rows_get pa' hn
  obtain ⟨ab, fb, gb⟩ := rows_get pb (sub _ hn)
  have sH := s1.trans s
  refine ⟨rfl, yesG ⟨_, rfl, _, rfl, _, rfl, a, .ref aa, rfl, by rw [← fa]; exact DGet.k (k := Sum.inr n) (sH _ _ ha), _, rfl, _, rfl, b, .ref ab, rfl, by rw [← fb]; exact DGet.k (k := Sum.inr n) (sH _ _ hb), aa, ab, _, _, rfl, .inr ⟨SqT.of (sH _ _ ga), SqT.of (sH _ _ gb), fun D2 hD2 => ?_⟩⟩⟩
  have gaH := sH _ _ ga
  have gbH := sH _ _ gb
  refine lc_lst (List.range many) (walk_zipT (K := K) (n := (List.range many).length) (by rw [List.length_map, List.length_map, rowI_len, rowI_len, List.length_range, Nat.min_self])) hD2 (fun H s => ⟨SqT.of (s _ _ gaH), SqT.of (s _ _ gbH)⟩) (fun _ => true) (fun p => .int (if R' n p < R n p then R' n p else R n p)) (by rw [List.length_range]; omega)
    (fun i2 p x H3 H4 hi2 s3 hy2 N2 R3 _ r2 => ?_) (fun H3 ys3 s3 e3 t3 => ?_)
  · obtain ⟨T2, x1, x2, rfl, hT, rfl, g1, g2⟩ := hy2
    have hp2 : i2 < many ∧ p = i2 := by
      have := List.getElem?_eq_some_iff.mp hi2
      obtain ⟨q1, q2⟩ := this
      rw [List.length_range] at q1
      rw [List.getElem_range] at q2
      exact ⟨q1, q2.symm⟩
    obtain ⟨hp2, rfl⟩ := hp2
    dsimp only at g1 g2
    rw [List.getElem?_map, rowI_get hp2] at g1 g2
    cases g1
    cases g2
    exact ⟨_, _, rfl, SqT.of upd_same, rfl, _, _, rfl, _, _, rfl, rfl, rfl, yesT ⟨_, rfl, _, rfl, _, _, rfl, r2 _ _ (Same.new hT) rfl (.int _)⟩⟩
  · rw [flt_true] at t3
    have eys := TvAll.ints_of t3
    refine ⟨_, _, rfl, SqL.of e3, fun l hl2 => r' _ _ (s3.trans (Same.new hl2)) (.tup upd_same ?_)⟩
    rw [eys]
    exact TvAll.ints _
def sp_floors_of : Sp := fun vs H Q _ => ∃ (a : Addr) (many : Nat) (ns : List Str) (R : Str → Nat → Int), vs = [.ref a] ∧ RunAt H a ns many R ∧ ns.Nodup ∧ sortedS ns = true ∧ ns.length ≤ 60 ∧ many ≤ 1000 ∧
  ∀ p H' fl, Same H H' → H p = none → H' p = some (.dT (stK fl)) → (∀ n ∈ ns, ∀ q, q < many → flV fl n q = R n q) → Q (.ref p) H'
theorem c_floors_of (T : Txt K mg) : Cal P w K mg base 1 "floors_of" (sp_floors_of) [] := by
  refine cal_of T.d_floors_of sc_floors_of (fun vs H Q E h => by first | (obtain ⟨_, rfl, _⟩ := h; rfl) | (obtain ⟨_, _, rfl, _⟩ := h; rfl) | (obtain ⟨_, _, _, rfl, _⟩ := h; rfl) | (obtain ⟨_, _, _, _, rfl, _⟩ := h; rfl) | (obtain ⟨_, _, _, _, _, rfl, _⟩ := h; rfl) | (obtain ⟨_, _, _, _, _, _, rfl, _⟩ := h; rfl) | (obtain ⟨_, _, _, _, _, _, _, rfl, _⟩ := h; rfl) | (obtain ⟨_, _, _, _, _, _, _, _, rfl, _⟩ := h; rfl) | (obtain ⟨_, _, _, _, _, _, _, _, _, rfl, _⟩ := h; rfl) | (obtain ⟨_, _, _, _, _, _, _, _, _, _, rfl, _⟩ := h; rfl) | (obtain ⟨_, _, _, _, _, _, _, _, _, _, _, rfl, _⟩ := h; rfl) | (obtain ⟨_, _, _, _, _, _, _, _, _, _, _, _, rfl, _⟩ := h; rfl)) bi_floors_of (fun f cdv A outer s H vs Q E hr hsp => ?_)
  have hu := hu_of hr
  have hu64 := hr.units
  have hu2 := hu2_of hr
  have hu80 := hu80_of hr
  have nd := sc_floors_of.nd
  refine ⟨_, (pss_one (ps_ret (pe_dc2 (own := [("name", 1), ("piece", 2), ("begin", 3)]) (ws := [2, 3]) rfl nd hu2 (pil (K := K) rfl (pe_callB (call_sortedD rfl) (by rfl) T.b_sorted (by decide +kernel) (pa_cons (pv 0) pa_nil))) (blkOk_by (own := [("name", 1), ("piece", 2), ("begin", 3)]) (N := n_floors_of) (sc := defScope s_floors_of) (by decide +kernel)) (by decide) (fun _ _ _ _ _ => (pg_name (i := 1) nd rfl (by first | exact Or.inl rfl | exact Or.inr rfl))) (fun _ _ _ _ _ => (pi_enT (K := K) rfl (by rfl) T.b_enumerate (pa_cons (pe_dget hu (pv 0) (pv 1) (fun _ _ => rfl)) pa_nil))) (fun _ _ _ _ _ => (pgt (K := K) (n := 2) rfl (pgs_cons (pg_name (i := 2) nd rfl (by first | exact Or.inl rfl | exact Or.inr rfl)) (pgs_cons (pg_name (i := 3) nd rfl (by first | exact Or.inl rfl | exact Or.inr rfl)) pgs_nil)))) (fun _ _ _ _ _ => (pe_tup (pa_cons (pv 1) (pa_cons (pv 2) pa_nil)))) (fun _ _ _ _ _ => (pv 3))))), ?_⟩
  obtain ⟨a, many, ns, R, rfl, ra, nd', so, hl, hm, q⟩ := hsp
  obtain ⟨ka, ha, pa'⟩ := ra
  refine ⟨_, rfl, a, ka, ns, rfl, .inl ha, RunAt.keys pa', by omega, fun ys p perm so' hp => ?_⟩
  have en := sorted_uniq perm so' so
  subst en
  refine ⟨_, rfl, ⟨_, SqL.of upd_same⟩, fun D hD => ?_⟩
  have s1 : Same H (upd H p (.lst (ys.map V.str))) := Same.new hp
  have e1 : (upd H p (.lst (ys.map V.str))) p = some (.lst (ys.map V.str)) := upd_same
  generalize upd H p (.lst (ys.map V.str)) = H1 at hD s1 e1 ⊢
  have wl := walk_listL (K := K) (a := p) (xs := ys.map V.str) (n := ys.length) (by rw [List.length_map])
  have mul1 : ∀ i, i < ys.length → (i + 1) * many ≤ 60 * 1000 := fun i hi => Nat.mul_le_mul (by omega) hm
  let Kn : StT → Str → Nat → Prop := fun fl n j => ∀ q, q < j → lkT fl [Sum.inr n, Sum.inl (q : Int)] = some (R n q)
  refine ⟨fun i m H' => m = ys.length - i ∧ i ≤ ys.length ∧ Same H1 H' ∧ ∃ fl : StT, H' D = some (.dT (stK fl)) ∧ fl.length ≤ i * many ∧ ∀ n ∈ ys.take i, Kn fl n many, ⟨ys.length, by simp, Nat.zero_le _, Same.new hD, [], upd_same, Nat.zero_le _, fun n hn => by simp at hn⟩, ?_⟩
  rintro i m H2 ⟨rfl, hi, s2, fl, e2, l2, k2⟩
  by_cases hlt : i < ys.length
  · refine .inr ⟨wl.goes i H2 hlt (SqL.of (s2 _ _ e1)), fun H' => Same H1 H' ∧ ∃ fl : StT, H' D = some (.dT (stK fl)) ∧ fl.length ≤ (i + 1) * many ∧ ∀ n ∈ ys.take (i + 1), Kn fl n many, fun H' q => ⟨ys.length - (i + 1), by omega, rfl, hlt, q⟩, fun x H' y => ?_⟩
    obtain ⟨rfl, hx⟩ := wl.yields i H2 x H' hlt (SqL.of (s2 _ _ e1)) y
    have en : ys[i]? = some ys[i] := List.getElem?_eq_getElem hlt
    rw [List.getElem?_map, en] at hx
    cases hx
    have hn := List.mem_of_getElem? en
    have etk : ys.take (i + 1) = ys.take i ++ [ys[i]] := by rw [List.take_succ, en]; rfl
    generalize ys[i] = n at en hn etk ⊢
    obtain ⟨aa, fa, ga⟩ := rows_get pa' hn
    have sH := s1.trans s2
    refine ⟨rfl, _, rfl, _, rfl, a, .ref aa, rfl, by rw [← fa]; exact DGet.k (k := Sum.inr n) (sH _ _ ha), aa, _, rfl, SqT.of (sH _ _ ga), ?_⟩
    have wz : Walk (IteT K aa) many (fun H => SqT K H aa ((rowI R n many).map V.int)) (YPair (fun i => some (.int (i : Nat))) (fun i => ((rowI R n many).map V.int)[i]?)) := by
      have := walk_enumT (K := K) (a := aa) (xs := (rowI R n many).map V.int)
      rwa [List.length_map, rowI_len] at this
    refine ⟨fun j k H' => k = many - j ∧ j ≤ many ∧ Same H1 H' ∧ ∃ fl : StT, H' D = some (.dT (stK fl)) ∧ fl.length ≤ i * many + j ∧ (∀ n ∈ ys.take i, Kn fl n many) ∧ Kn fl n j, ⟨many, by simp, Nat.zero_le _, s2, fl, e2, by omega, k2, fun q hq => absurd hq (Nat.not_lt_zero _)⟩, ?_⟩
    rintro j k' H3 ⟨rfl, hj, s3, fl3, e3, l3, k3, kn3⟩
    have gd3 : SqT K H3 aa ((rowI R n many).map V.int) := SqT.of ((s1.trans s3) _ _ ga)
    by_cases hjl : j < many
    · refine .inr ⟨wz.goes j H3 hjl gd3, fun H' => Same H1 H' ∧ ∃ fl : StT, H' D = some (.dT (stK fl)) ∧ fl.length ≤ i * many + (j + 1) ∧ (∀ n ∈ ys.take i, Kn fl n many) ∧ Kn fl n (j + 1), fun H' q => ⟨many - (j + 1), by omega, rfl, hjl, q⟩, fun x H4 y => ?_⟩
      obtain ⟨T2, x1, x2, rfl, hT, rfl, g1, g2⟩ := wz.yields j H3 x H4 hjl gd3 y
      dsimp only at g1 g2
      rw [List.getElem?_map, rowI_get hjl] at g2
      cases g1
      cases g2
      have s4 : Same H3 (upd H3 T2 (.tup [.int (j : Int), .int (R n j)])) := Same.new hT
      refine ⟨_, _, rfl, SqT.of upd_same, rfl, _, _, rfl, _, _, rfl, rfl, rfl, ?_⟩
      refine ⟨_, rfl, _, rfl, by show 2 ≤ sizeLine; decide, fun p5 hp5 => ?_⟩
      have s5 := s4.trans (Same.new hp5 (o := .tup [.str n, .int (j : Int)]))
      have e5 := s5 _ _ e3
      refine ⟨_, rfl, stK fl3, [Sum.inr n, Sum.inl (j : Int)], p5, rfl, upd_same, e5, ?_, ?_⟩
      · rw [stK, List.length_map]
        have := mul1 i hlt
        rw [Nat.succ_mul] at this
        exact smallL (by omega)
      · rw [← stP_K]
        have put : ∀ (m : Str) (q : Nat), lkT fl3 [Sum.inr m, Sum.inl (q : Int)] = some (R m q) → lkT (stP fl3 [Sum.inr n, Sum.inl (j : Int)] (R n j)) [Sum.inr m, Sum.inl (q : Int)] = some (R m q) := fun m q hq => by
          by_cases c : ([Sum.inr m, Sum.inl (q : Int)] : List Key) = [Sum.inr n, Sum.inl (j : Int)]
          · rw [c, lkT_self]
            have h1 : m = n := Sum.inr.inj (List.cons.inj c).1
            have h2 : (q : Int) = (j : Int) := Sum.inl.inj (List.cons.inj (List.cons.inj c).2).1
            have h3 : q = j := by omega
            rw [h1, h3]
          · rw [lkT_other _ _ _ _ c]
            exact hq
        refine ⟨(s3.trans s5).mut hD, _, upd_same, Nat.le_trans (stP_len _ _ _) (by omega), fun m hm q hq => put m q (k3 m hm q hq), fun q hq => ?_⟩
        by_cases c : q = j
        · subst c
          exact lkT_self _ _ _
        · exact put n q (kn3 q (by omega))
    · have ej : j = many := by omega
      subst ej
      refine .inl ⟨wz.stops H3 gd3, s3, fl3, e3, by rw [Nat.succ_mul]; exact l3, fun m hm => ?_⟩
      rw [etk] at hm
      rcases List.mem_append.mp hm with hm | hm
      · exact k3 m hm
      · simp at hm
        subst hm
        exact kn3
  · have ei : i = ys.length := by omega
    subst ei
    refine .inl ⟨wl.stops H2 (SqL.of (s2 _ _ e1)), q D _ fl (s1.trans s2) (s1.free hD) e2 fun n hn r hr => ?_⟩
    have := k2 n (by rw [List.take_length]; exact hn) r hr
    rw [flV, this]
    rfl
end
end K41
/-! the law's own view of a hall -/
namespace K41
open PySem PySem.Spec PyProof.Rows L2
open C8 (Cal pe_c)
def Hall.downs (h : Hall) (n : Str) : List Arc := ((List.range h.bs.length).filter fun i => decide ((h.belt i).a = n)).map Arc.down
def Hall.ups (h : Hall) (n : Str) : List Arc := ((List.range h.bs.length).filter fun i => decide ((h.belt i).b = n)).map Arc.up
def Hall.larcs (h : Hall) (n : Str) : List Arc := ([Arc.next n] ++ h.downs n) ++ h.ups n
def larD (h : Hall) (x : Arc) : PyData := .tuple [x.py, .str (h.en x), .int (h.gr x : Int)]
def Hall.lends (h : Hall) (n : Str) : List Str := ((h.larcs n).filter fun x => h.gr x == 0).map h.en
theorem lends_mem {h : Hall} {n e : Str} : e ∈ h.lends n ↔ ∃ x ∈ h.arcs, h.gr x = 0 ∧ h.st x = n ∧ h.en x = e := by
  rw [Hall.lends, List.mem_map]
  constructor
  · rintro ⟨x, hx, rfl⟩
    rw [List.mem_filter, beq_iff_eq] at hx
    obtain ⟨hx, hg⟩ := hx
    rcases List.mem_append.mp hx with hx | hx
    · rcases List.mem_append.mp hx with hx | hx
      · simp at hx
        subst hx
        cases hg
      · obtain ⟨i, hi, rfl⟩ := List.mem_map.mp hx
        rw [List.mem_filter, decide_eq_true_eq, List.mem_range] at hi
        exact ⟨_, List.mem_append_right _ (List.mem_flatMap.mpr ⟨i, List.mem_range.mpr hi.1, by simp⟩), hg, hi.2, rfl⟩
    · obtain ⟨i, hi, rfl⟩ := List.mem_map.mp hx
      rw [List.mem_filter, decide_eq_true_eq, List.mem_range] at hi
      exact ⟨_, List.mem_append_right _ (List.mem_flatMap.mpr ⟨i, List.mem_range.mpr hi.1, by simp⟩), hg, hi.2, rfl⟩
  · rintro ⟨x, hx, hg, rfl, rfl⟩
    refine ⟨x, ?_, rfl⟩
    rw [List.mem_filter, beq_iff_eq]
    refine ⟨?_, hg⟩
    have hh := Hall.has_of hx
    cases x with
    | next n => cases hg
    | down i => exact List.mem_append_left _ (List.mem_append_right _ (List.mem_map.mpr ⟨i, by rw [List.mem_filter, List.mem_range]; exact ⟨hh, decide_eq_true rfl⟩, rfl⟩))
    | up i => exact List.mem_append_right _ (List.mem_map.mpr ⟨i, by rw [List.mem_filter, List.mem_range]; exact ⟨hh, decide_eq_true rfl⟩, rfl⟩)
/-- what a hall must be for its small parts to be read -/
structure Hall.Lo (h : Hall) : Prop where
  n4 : h.ms.length ≤ 4
  b5 : h.bs.length ≤ 5
  nd : h.names.Nodup
  fr : ∀ b ∈ h.bs, b.first ≤ b.room
  ends : ∀ b ∈ h.bs, b.a ∈ h.names ∧ b.b ∈ h.names
  str : ∀ n ∈ h.names, PyData.strOk n = true ∧ (reprText n).length ≤ 60
theorem Hall.Ok.lo {h : Hall} (o : h.Ok) : h.Lo := ⟨o.n4, o.b5, o.nd, o.fr, o.ends, o.str⟩
theorem larcs_len {h : Hall} (lo : h.Lo) (n : Str) : (h.downs n).length ≤ 5 ∧ (h.ups n).length ≤ 5 := by
  have h1 := List.length_filter_le (fun i => decide ((h.belt i).a = n)) (List.range h.bs.length)
  have h2 := List.length_filter_le (fun i => decide ((h.belt i).b = n)) (List.range h.bs.length)
  have := lo.b5
  rw [List.length_range] at h1 h2
  rw [Hall.downs, Hall.ups, List.length_map, List.length_map]
  omega
section
variable {P : Program} {w : World} {K : PySem.W.Frag} {mg : Str → Option Value} {base : Heap}
def sp__law_names : Sp := fun vs H Q _ => ∃ (v : V) (h : Hall), vs = [v] ∧ Tv H v h.py ∧ h.ms.length ≤ 1000 ∧ ∀ p H', Same H H' → H p = none → H' p = some (.lst (h.names.map .str)) → Q (.ref p) H'
theorem c__law_names (T : Txt K mg) : Cal P w K mg base 1 "_law_names" (sp__law_names) [] := by
  refine cal_of T.d__law_names sc__law_names (fun vs H Q E h => by first | (obtain ⟨_, rfl, _⟩ := h; rfl) | (obtain ⟨_, _, rfl, _⟩ := h; rfl) | (obtain ⟨_, _, _, rfl, _⟩ := h; rfl) | (obtain ⟨_, _, _, _, rfl, _⟩ := h; rfl) | (obtain ⟨_, _, _, _, _, rfl, _⟩ := h; rfl) | (obtain ⟨_, _, _, _, _, _, rfl, _⟩ := h; rfl) | (obtain ⟨_, _, _, _, _, _, _, rfl, _⟩ := h; rfl) | (obtain ⟨_, _, _, _, _, _, _, _, rfl, _⟩ := h; rfl) | (obtain ⟨_, _, _, _, _, _, _, _, _, rfl, _⟩ := h; rfl) | (obtain ⟨_, _, _, _, _, _, _, _, _, _, rfl, _⟩ := h; rfl) | (obtain ⟨_, _, _, _, _, _, _, _, _, _, _, rfl, _⟩ := h; rfl) | (obtain ⟨_, _, _, _, _, _, _, _, _, _, _, _, rfl, _⟩ := h; rfl)) bi__law_names (fun f cdv A outer s H vs Q E hr hsp => ?_)
  have hu := hu_of hr
  have hu64 := hr.units
  have hu2 := hu2_of hr
  have hu80 := hu80_of hr
  have nd := sc__law_names.nd
  refine ⟨_, (pss_one (ps_ret (pe_lc (own := [("_law_machine_here", 1)]) rfl nd (pit (K := K) rfl (pe_ix (ixt (K := K) rfl) (pv 0) pe_int (fun _ _ => rfl))) (blkOk_by (own := [("_law_machine_here", 1)]) (N := n__law_names) (sc := defScope s__law_names) (by decide +kernel)) (fun _ _ _ _ _ => (pg_name (i := 1) nd rfl (by first | exact Or.inl rfl | exact Or.inr rfl))) (fun _ _ _ _ _ => pts_nil) (fun _ _ _ _ _ => (pe_ix (ixt (K := K) rfl) (pv 1) pe_int (fun _ _ => rfl)))))), ?_⟩
  obtain ⟨v, h, rfl, tv, hl, q⟩ := hsp
  obtain ⟨a, m, b, ms, bs, rfl, ha, hm, tm, hb, tb⟩ := Hall.inv tv
  refine ⟨_, rfl, _, _, 0, _, rfl, rfl, SqT.of ha, atI_nat rfl, _, rfl, ⟨_, SqT.of hm⟩, fun D hD => ?_⟩
  refine lc_lst h.ms (walk_tupL (K := K) tm.lenm) hD (fun H s => SqT.of (s _ _ hm)) (fun _ => true) (fun m => .str m.nm) (by omega) (fun i mm x H1 H' hi s hy N R _ r => ?_) (fun H' ys s e t => ?_)
  · obtain ⟨rfl, hx⟩ := hy
    obtain ⟨v, e1, e2⟩ := (tm.m s.tk).at hi
    rw [e1] at hx
    cases hx
    obtain ⟨a1, p1, ps1, rfl, h1, h2, h3⟩ := Mach.inv e2
    exact ⟨rfl, yesT ⟨_, rfl, _, _, 0, _, rfl, rfl, SqT.of h1, atI_nat rfl, r _ _ (Same.refl _) rfl (.str _)⟩⟩
  · rw [flt_true] at t
    have e2 : h.ms.map (fun m => PyData.str m.nm) = h.names.map PyData.str := by rw [Hall.names, List.map_map]; rfl
    rw [e2] at t
    rw [t.strs_inv] at e
    exact q D H' s hD e
def sp__law_arcs : Sp := fun vs H Q _ => ∃ (v : V) (n : Str) (h : Hall), vs = [v, .str n] ∧ Tv H v h.py ∧ h.Lo ∧ ∀ p H' ys, Same H H' → H p = none → H' p = some (.lst ys) → TvAll H' ys ((h.larcs n).map (larD h)) → Q (.ref p) H'
theorem c__law_arcs (T : Txt K mg) : Cal P w K mg base 1 "_law_arcs" (sp__law_arcs) [] := by
  refine cal_of T.d__law_arcs sc__law_arcs (fun vs H Q E h => by first | (obtain ⟨_, rfl, _⟩ := h; rfl) | (obtain ⟨_, _, rfl, _⟩ := h; rfl) | (obtain ⟨_, _, _, rfl, _⟩ := h; rfl) | (obtain ⟨_, _, _, _, rfl, _⟩ := h; rfl) | (obtain ⟨_, _, _, _, _, rfl, _⟩ := h; rfl) | (obtain ⟨_, _, _, _, _, _, rfl, _⟩ := h; rfl) | (obtain ⟨_, _, _, _, _, _, _, rfl, _⟩ := h; rfl) | (obtain ⟨_, _, _, _, _, _, _, _, rfl, _⟩ := h; rfl) | (obtain ⟨_, _, _, _, _, _, _, _, _, rfl, _⟩ := h; rfl) | (obtain ⟨_, _, _, _, _, _, _, _, _, _, rfl, _⟩ := h; rfl) | (obtain ⟨_, _, _, _, _, _, _, _, _, _, _, rfl, _⟩ := h; rfl) | (obtain ⟨_, _, _, _, _, _, _, _, _, _, _, _, rfl, _⟩ := h; rfl)) bi__law_arcs (fun f cdv A outer s H vs Q E hr hsp => ?_)
  have hu := hu_of hr
  have hu64 := hr.units
  have hu2 := hu2_of hr
  have hu80 := hu80_of hr
  have nd := sc__law_arcs.nd
  refine ⟨_, (pss_cons (ps_set (i := 2) nd rfl (by first | exact Or.inl rfl | exact Or.inr rfl) (pe_lst (pa_cons (pe_tup (pa_cons (pe_tup (pa_cons pe_str (pa_cons (pv 1) pa_nil))) (pa_cons (pv 1) (pa_cons pe_int pa_nil)))) pa_nil)))
    (pss_cons (ps_expr (pe_bm PySem.F.plainAttrs_list PySem.F.slot_list_extend PySem.F.type_list_extend mt_extend (pv 2) (pa_cons (pe_lc (own := [("_law_at", 3), ("_law_belt", 4)]) rfl nd (pi_enT (K := K) rfl (by rfl) T.b_enumerate (pa_cons (pe_ix (ixt (K := K) rfl) (pv 0) pe_int (fun _ _ => rfl)) pa_nil)) (blkOk_by (own := [("_law_at", 3), ("_law_belt", 4)]) (N := n__law_arcs) (sc := defScope s__law_arcs) (by decide +kernel)) (fun _ _ _ _ _ => (pgt (K := K) (n := 2) rfl (pgs_cons (pg_name (i := 3) nd rfl (by first | exact Or.inl rfl | exact Or.inr rfl)) (pgs_cons (pg_name (i := 4) nd rfl (by first | exact Or.inl rfl | exact Or.inr rfl)) pgs_nil)))) (fun _ _ _ _ _ => (pts_one (pt_cmpR op_eq (pe_ix (ixt (K := K) rfl) (pv 4) pe_int (fun _ _ => rfl)) (pv 1) (nomark _)))) (fun _ _ _ _ _ => (pe_tup (pa_cons (pe_tup (pa_cons pe_str (pa_cons (pv 3) pa_nil))) (pa_cons (pe_ix (ixt (K := K) rfl) (pv 4) pe_int (fun _ _ => rfl)) (pa_cons (pe_ix (ixt (K := K) rfl) (pv 4) pe_int (fun _ _ => rfl)) pa_nil)))))) pa_nil)))
    (pss_one (ps_ret (pe_op (op_catK (K := K) rfl) (pv 2) (pe_lc (own := [("_law_at", 3), ("_law_belt", 4)]) rfl nd (pi_enT (K := K) rfl (by rfl) T.b_enumerate (pa_cons (pe_ix (ixt (K := K) rfl) (pv 0) pe_int (fun _ _ => rfl)) pa_nil)) (blkOk_by (own := [("_law_at", 3), ("_law_belt", 4)]) (N := n__law_arcs) (sc := defScope s__law_arcs) (by decide +kernel)) (fun _ _ _ _ _ => (pgt (K := K) (n := 2) rfl (pgs_cons (pg_name (i := 3) nd rfl (by first | exact Or.inl rfl | exact Or.inr rfl)) (pgs_cons (pg_name (i := 4) nd rfl (by first | exact Or.inl rfl | exact Or.inr rfl)) pgs_nil)))) (fun _ _ _ _ _ => (pts_one (pt_cmpR op_eq (pe_ix (ixt (K := K) rfl) (pv 4) pe_int (fun _ _ => rfl)) (pv 1) (nomark _)))) (fun _ _ _ _ _ => (pe_tup (pa_cons (pe_tup (pa_cons pe_str (pa_cons (pv 3) pa_nil))) (pa_cons (pe_ix (ixt (K := K) rfl) (pv 4) pe_int (fun _ _ => rfl)) (pa_cons (pe_op op_sub (pe_ix (ixt (K := K) rfl) (pv 4) pe_int (fun _ _ => rfl)) (pe_ix (ixt (K := K) rfl) (pv 4) pe_int (fun _ _ => rfl))) pa_nil))))))))))), ?_⟩
  obtain ⟨v, n, h, rfl, tv, lo, q⟩ := hsp
  obtain ⟨a, m, b, ms, bs, rfl, ha, hm, tm, hb, tb⟩ := Hall.inv tv
  have b5 := lo.b5
  refine ⟨_, rfl, by show 2 ≤ sizeLine; decide, fun p1 hp1 => ⟨_, rfl, by show 3 ≤ sizeLine; decide, fun p2 hp2 => ⟨by show 1 ≤ sizeLine; decide, fun F hF => ?_⟩⟩⟩
  have k1 : Same H (upd H p1 (.tup [.str "next", .str n])) := Same.new hp1
  have k2 : Same _ (upd _ p2 (.tup [.ref p1, .str n, .int 1])) := Same.new hp2
  have k3 : Same _ (upd _ F (.lst [.ref p2])) := Same.new hF
  have t1 := k3 _ _ (k2 _ _ (upd_same (H := H) (a := p1) (o := .tup [.str "next", .str n])))
  have t2 := k3 _ _ (upd_same (H := upd H p1 (.tup [.str "next", .str n])) (a := p2) (o := .tup [.ref p1, .str n, .int 1]))
  have eF := upd_same (H := upd (upd H p1 (.tup [.str "next", .str n])) p2 (.tup [.ref p1, .str n, .int 1])) (a := F) (o := .lst [.ref p2])
  have hFH : H F = none := (k1.trans k2).free hF
  have s3 := (k1.trans k2).trans k3
  have tF := TvAll.cons (.tup t2 (.cons (.tup t1 (.cons (.str _) (.cons (.str _) .nil))) (.cons (.str _) (.cons (.int _) .nil)))) (TvAll.nil)
  generalize upd (upd (upd H p1 (.tup [.str "next", .str n])) p2 (.tup [.ref p1, .str n, .int 1])) F (.lst [.ref p2]) = H3 at eF s3 tF ⊢
  have tFD : TvAll H3 [.ref p2] ([Arc.next n].map (larD h)) := tF
  -- one side's list
  have side : ∀ (g : Str → Prop), True := fun _ => trivial
  refine ⟨_, rfl, .inl ⟨rfl, _, SqL.of eF⟩, _, rfl, _, _, 1, _, rfl, rfl, SqT.of (s3 _ _ ha), atI_nat rfl, b, bs, rfl, SqT.of (s3 _ _ hb), fun D hD => ?_⟩
  have lb := tb.lenm
  have wz : ∀ H', Same H3 H' → True := fun _ _ => trivial
  have hb3 := s3 _ _ hb
  have tb3 := tb.m s3.tk
  refine lc_lst (List.range h.bs.length) (by rw [List.length_range, ← lb]; exact walk_enumT (K := K)) hD (fun H s => SqT.of (s _ _ hb3)) (fun i => decide ((h.belt i).a = n)) (fun i => larD h (.down i)) (by rw [List.length_range]; omega) (fun i i' x H4 H' hi s hy N R nn r => ?_) (fun H4 ys s4 e4 t4 => ?_)
  · obtain ⟨T2, x1, x2, rfl, hT, rfl, g1, g2⟩ := hy
    obtain ⟨q1, q2⟩ := List.getElem?_eq_some_iff.mp hi
    rw [List.length_range] at q1
    rw [List.getElem_range] at q2
    subst q2
    dsimp only at g1 g2
    cases g1
    obtain ⟨bv, f1, f2⟩ := tb3.at (Hall.belt_get q1)
    rw [f1] at g2
    have eb : bv = x2 := Option.some.inj g2
    subst eb
    have sT : Same H4 (upd H4 T2 (.tup [.int (i : Int), bv])) := Same.new hT
    obtain ⟨ba, rfl, hba⟩ := Belt.inv (f2.m (s.trans sT).tk)
    refine ⟨_, _, rfl, SqT.of upd_same, rfl, _, _, rfl, _, _, rfl, rfl, rfl, ?_⟩
    refine ⟨_, rfl, _, _, 0, _, rfl, rfl, SqT.of hba, atI_nat rfl, _, rfl, rfl, _, rfl, ?_⟩
    rw [dec_str]
    cases c : decide ((h.belt i).a = n) with
    | false => exact iteF (nn _ sT c)
    | true =>
      refine iteT ⟨_, rfl, by show 2 ≤ sizeLine; decide, fun p5 hp5 => ?_⟩
      have s5 : Same _ (upd (upd H4 T2 (.tup [.int (i : Int), .ref ba])) p5 (.tup [.str "down", .int (i : Int)])) := Same.new hp5
      refine ⟨_, rfl, _, _, 1, _, rfl, rfl, SqT.of (s5 _ _ hba), atI_nat rfl, _, rfl, _, _, 3, _, rfl, rfl, SqT.of (s5 _ _ hba), atI_nat rfl, by show 3 ≤ sizeLine; decide, fun p6 hp6 => ?_⟩
      have s6 : Same _ (upd (upd (upd H4 T2 (.tup [.int (i : Int), .ref ba])) p5 (.tup [.str "down", .int (i : Int)])) p6 (.tup [.ref p5, .str (h.belt i).b, .int ((h.belt i).first : Int)])) := Same.new hp6
      exact r _ _ ((sT.trans s5).trans s6) c (.tup upd_same (.cons (.tup (s6 _ _ upd_same) (.cons (.str _) (.cons (.int _) .nil))) (.cons (.str _) (.cons (.int _) .nil))))
  have hdn : TvAll H4 ys ((h.downs n).map (larD h)) := by rw [Hall.downs, List.map_map]; exact t4
  have eF4 := s4 _ _ eF
  have s34 := s3.trans s4
  have ly := hdn.len
  rw [List.length_map] at ly
  have lc := larcs_len lo n
  refine ⟨F, D, [.ref p2], ys, rfl, rfl, eF4, e4, smallL (by simp only [List.length_cons, List.length_nil]; omega) |> Nat.le_of_lt, ?_⟩
  have s5 : Same H (upd H4 F (.lst ([.ref p2] ++ ys))) := s34.mut hFH
  have tk5 : TK H4 (upd H4 F (.lst ([.ref p2] ++ ys))) := TK.lst eF4
  have eF5 : (upd H4 F (.lst ([.ref p2] ++ ys))) F = some (.lst ([.ref p2] ++ ys)) := upd_same
  have t5 : TvAll (upd H4 F (.lst ([.ref p2] ++ ys))) ([.ref p2] ++ ys) (([Arc.next n] ++ h.downs n).map (larD h)) := by
    rw [List.map_append]
    exact (tFD.m (s4.tk.trans tk5)).append (hdn.m tk5)
  have tb5 := tb.m s5.tk
  have hb5 := s5 _ _ hb
  generalize upd H4 F (.lst ([.ref p2] ++ ys)) = H5 at s5 eF5 t5 tb5 hb5 ⊢
  refine ⟨_, rfl, _, rfl, _, _, 1, _, rfl, rfl, SqT.of (s5 _ _ ha), atI_nat rfl, b, bs, rfl, SqT.of hb5, fun D2 hD2 => ?_⟩
  refine lc_lst (List.range h.bs.length) (by rw [List.length_range, ← lb]; exact walk_enumT (K := K)) hD2 (fun H s => SqT.of (s _ _ hb5)) (fun i => decide ((h.belt i).b = n)) (fun i => larD h (.up i)) (by rw [List.length_range]; omega) (fun i i' x H6 H' hi s hy N R nn r => ?_) (fun H6 zs s6 e6 t6 => ?_)
  · obtain ⟨T2, x1, x2, rfl, hT, rfl, g1, g2⟩ := hy
    obtain ⟨q1, q2⟩ := List.getElem?_eq_some_iff.mp hi
    rw [List.length_range] at q1
    rw [List.getElem_range] at q2
    subst q2
    dsimp only at g1 g2
    cases g1
    obtain ⟨bv, f1, f2⟩ := tb5.at (Hall.belt_get q1)
    rw [f1] at g2
    have eb : bv = x2 := Option.some.inj g2
    subst eb
    have sT : Same H6 (upd H6 T2 (.tup [.int (i : Int), bv])) := Same.new hT
    obtain ⟨ba, rfl, hba⟩ := Belt.inv (f2.m (s.trans sT).tk)
    refine ⟨_, _, rfl, SqT.of upd_same, rfl, _, _, rfl, _, _, rfl, rfl, rfl, ?_⟩
    refine ⟨_, rfl, _, _, 1, _, rfl, rfl, SqT.of hba, atI_nat rfl, _, rfl, rfl, _, rfl, ?_⟩
    rw [dec_str]
    cases c : decide ((h.belt i).b = n) with
    | false => exact iteF (nn _ sT c)
    | true =>
      refine iteT ⟨_, rfl, by show 2 ≤ sizeLine; decide, fun p5 hp5 => ?_⟩
      have s7 : Same _ (upd (upd H6 T2 (.tup [.int (i : Int), .ref ba])) p5 (.tup [.str "up", .int (i : Int)])) := Same.new hp5
      refine ⟨_, rfl, _, _, 0, _, rfl, rfl, SqT.of (s7 _ _ hba), atI_nat rfl, _, rfl, _, _, 2, _, rfl, rfl, SqT.of (s7 _ _ hba), atI_nat rfl, _, rfl, _, _, 3, _, rfl, rfl, SqT.of (s7 _ _ hba), atI_nat rfl, _, _, rfl, rfl, by show 3 ≤ sizeLine; decide, fun p6 hp6 => ?_⟩
      have fr := lo.fr _ (Hall.belt_mem q1)
      have eg : V.int (((h.belt i).room : Int) - ((h.belt i).first : Int)) = .int (h.gr (.up i) : Int) := by
        show _ = V.int (((h.belt i).room - (h.belt i).first : Nat) : Int)
        congr 1
        omega
      dsimp only
      rw [eg]
      have s8 : Same _ (upd (upd (upd H6 T2 (.tup [.int (i : Int), .ref ba])) p5 (.tup [.str "up", .int (i : Int)])) p6 (.tup [.ref p5, .str (h.belt i).a, .int (h.gr (.up i) : Int)])) := Same.new hp6
      exact r _ _ ((sT.trans s7).trans s8) c (.tup upd_same (.cons (.tup (s8 _ _ upd_same) (.cons (.str _) (.cons (.int _) .nil))) (.cons (.str _) (.cons (.int _) .nil))))
  have hup : TvAll H6 zs ((h.ups n).map (larD h)) := by rw [Hall.ups, List.map_map]; exact t6
  have lz := hup.len
  rw [List.length_map] at lz
  have eF6 := s6 _ _ eF5
  refine ⟨F, D2, _, zs, rfl, rfl, eF6, e6, smallL (by simp only [List.length_append, List.length_cons, List.length_nil]; omega) |> Nat.le_of_lt, fun p9 hp9 => ?_⟩
  have s9 : Same H6 (upd H6 p9 (.lst (([.ref p2] ++ ys) ++ zs))) := Same.new hp9
  refine q p9 _ _ ((s5.trans s6).trans s9) ((s5.trans s6).free hp9) upd_same ?_
  rw [Hall.larcs, List.map_append]
  exact (t5.m (s6.trans s9).tk).append (hup.m s9.tk)
end
end K41
/-! is a hall live; the rows -/
namespace K41
open PySem PySem.Spec PyProof.Rows L2
open C8 (Cal pe_c)
theorem inV_str (n : Str) : ∀ l : List Str, inV (.str n) (l.map .str) = decide (n ∈ l)
  | [] => by simp [inV]
  | m :: l => by
    have ih := inV_str n l
    by_cases c : n = m
    · subst c
      simp [inV, eqV]
    · simp only [inV, List.map_cons, List.any_cons] at ih ⊢
      rw [ih]
      simp [eqV, c]
      intro z
      exact absurd z.symm c
theorem flat_strs (l : List Str) : (l.map V.str).all flatV = true := by
  rw [List.all_map]
  exact List.all_eq_true.mpr fun _ _ => rfl
def Hall.led (h : Hall) (l : List Str) : List Str := l.flatMap h.lends
def Hall.nxt (h : Hall) (l : List Str) : List Str := l.filter fun n => decide (n ∈ h.led l)
def Hall.lft (h : Hall) : Nat → List Str
  | 0 => h.names
  | t + 1 => h.nxt (h.lft t)
theorem lends_len {h : Hall} (lo : h.Lo) (n : Str) : (h.lends n).length ≤ 11 := by
  have h1 := List.length_filter_le (fun x => h.gr x == 0) (h.larcs n)
  have h2 := larcs_len lo n
  rw [Hall.lends, List.length_map]
  have : (h.larcs n).length = 1 + (h.downs n).length + (h.ups n).length := by
    rw [Hall.larcs, List.length_append, List.length_append]
    rfl
  omega
theorem led_len {h : Hall} (lo : h.Lo) : ∀ l : List Str, (h.led l).length ≤ 11 * l.length
  | [] => Nat.le_refl _
  | n :: l => by
    have h1 := lends_len lo n
    have h2 := led_len lo l
    rw [Hall.led, List.flatMap_cons, List.length_append, List.length_cons]
    rw [Hall.led] at h2
    omega
theorem led_snoc {h : Hall} (l : List Str) (n : Str) : h.led (l ++ [n]) = h.led l ++ h.lends n := by
  rw [Hall.led, List.flatMap_append, Hall.led]
  simp
theorem lft_sub {h : Hall} : ∀ (t : Nat) (n : Str), n ∈ h.lft t → n ∈ h.names
  | 0, _, hn => hn
  | t + 1, n, hn => lft_sub t n (List.mem_filter.mp hn).1
theorem lft_len {h : Hall} : ∀ t : Nat, (h.lft t).length ≤ h.ms.length
  | 0 => by rw [Hall.lft, Hall.names, List.length_map]; exact Nat.le_refl _
  | t + 1 => Nat.le_trans (List.length_filter_le _ _) (lft_len t)
section
variable {P : Program} {w : World} {K : PySem.W.Frag} {mg : Str → Option Value} {base : Heap}
def sp__law_is_live : Sp := fun vs H Q _ => ∃ (v : V) (h : Hall), vs = [v] ∧ Tv H v h.py ∧ h.Lo ∧ ∀ H', Same H H' → Q (.bl (decide (h.lft h.ms.length = []))) H'
theorem c__law_is_live (T : Txt K mg) : Cal P w K mg base 2 "_law_is_live" (sp__law_is_live) [] := by
  refine cal_of T.d__law_is_live sc__law_is_live (fun vs H Q E h => by first | (obtain ⟨_, rfl, _⟩ := h; rfl) | (obtain ⟨_, _, rfl, _⟩ := h; rfl) | (obtain ⟨_, _, _, rfl, _⟩ := h; rfl) | (obtain ⟨_, _, _, _, rfl, _⟩ := h; rfl) | (obtain ⟨_, _, _, _, _, rfl, _⟩ := h; rfl) | (obtain ⟨_, _, _, _, _, _, rfl, _⟩ := h; rfl) | (obtain ⟨_, _, _, _, _, _, _, rfl, _⟩ := h; rfl) | (obtain ⟨_, _, _, _, _, _, _, _, rfl, _⟩ := h; rfl) | (obtain ⟨_, _, _, _, _, _, _, _, _, rfl, _⟩ := h; rfl) | (obtain ⟨_, _, _, _, _, _, _, _, _, _, rfl, _⟩ := h; rfl) | (obtain ⟨_, _, _, _, _, _, _, _, _, _, _, rfl, _⟩ := h; rfl) | (obtain ⟨_, _, _, _, _, _, _, _, _, _, _, _, rfl, _⟩ := h; rfl)) bi__law_is_live (fun f cdv A outer s H vs Q E hr hsp => ?_)
  have hu := hu_of hr
  have hu64 := hr.units
  have hu2 := hu2_of hr
  have hu80 := hu80_of hr
  have nd := sc__law_is_live.nd
  refine ⟨_, (pss_cons (ps_set (i := 1) nd rfl (by first | exact Or.inl rfl | exact Or.inr rfl) (pe_c (c__law_names T) hr (by decide) rfl (pa_cons (pv 0) pa_nil)))
    (pss_cons (ps_for PassesOwn.never rfl (pi_range1 (by rfl) T.b_range (pa_cons (pe_callB (cr_len (K := K) rfl) (by rfl) T.b_len (by decide +kernel) (pa_cons (pv 1) pa_nil)) pa_nil)) (pg_name (i := 2) nd rfl (by first | exact Or.inl rfl | exact Or.inr rfl)) (pss_cons (ps_set (i := 3) nd rfl (by first | exact Or.inl rfl | exact Or.inr rfl) (pe_lst pa_nil))
    (pss_cons (ps_for PassesOwn.never rfl (pil (K := K) rfl (pv 1)) (pg_name (i := 4) nd rfl (by first | exact Or.inl rfl | exact Or.inr rfl)) (pss_one (ps_expr (pe_bm PySem.F.plainAttrs_list PySem.F.slot_list_extend PySem.F.type_list_extend mt_extend (pv 3) (pa_cons (pe_lc (own := [("_law_arc", 5), ("_law_end", 6), ("_law_growth", 7)]) rfl nd (pil (K := K) rfl (pe_c (c__law_arcs T) hr (by decide) rfl (pa_cons (pv 0) (pa_cons (pv 4) pa_nil)))) (blkOk_by (own := [("_law_arc", 5), ("_law_end", 6), ("_law_growth", 7)]) (N := n__law_is_live) (sc := defScope s__law_is_live) (by decide +kernel)) (fun _ _ _ _ _ => (pgt (K := K) (n := 3) rfl (pgs_cons (pg_name (i := 5) nd rfl (by first | exact Or.inl rfl | exact Or.inr rfl)) (pgs_cons (pg_name (i := 6) nd rfl (by first | exact Or.inl rfl | exact Or.inr rfl)) (pgs_cons (pg_name (i := 7) nd rfl (by first | exact Or.inl rfl | exact Or.inr rfl)) pgs_nil))))) (fun _ _ _ _ _ => (pts_one (pt_cmpR op_eq (pv 7) pe_int (nomark _)))) (fun _ _ _ _ _ => (pv 6))) pa_nil)))))
    (pss_one (ps_setLc (i := 1) (own := [("_law_name", 4)]) rfl nd rfl rfl (sw_true rfl rfl rfl (by decide +kernel)) (pil (K := K) rfl (pv 1)) (blkOk_by (own := [("_law_name", 4)]) (N := n__law_is_live) (sc := defScope s__law_is_live) (by decide +kernel)) (fun _ _ _ _ _ => (pg_name (i := 4) nd rfl (by first | exact Or.inl rfl | exact Or.inr rfl))) (fun _ _ _ _ _ => (pts_one (pt_cmpR (op_inq (K := K) rfl) (pv 4) (pv 3) (by rfl)))) (fun _ _ _ _ _ => (pv 4)))))))
    (pss_one (ps_ret (pe_cmpR (op_eqLd (K := K) rfl hu64) (pv 1) (pe_lst pa_nil) (nomark _)))))), ?_⟩
  obtain ⟨v, h, rfl, tv, lo, q⟩ := hsp
  have n4 := lo.n4
  have hnl : h.names.length = h.ms.length := by rw [Hall.names, List.length_map]
  refine ⟨_, rfl, _, h, rfl, tv, by omega, fun pL H1 s1 hpL eL => ⟨_, rfl, _, _, rfl, .inl (SqL.of eL), _, rfl, by rw [List.length_map]; omega, by rw [List.length_map]; omega, ?_⟩⟩
  have en : ((((h.names.map V.str).length : Nat) : Int)).toNat = h.ms.length := by rw [List.length_map, hnl]; rfl
  rw [en]
  refine for_it (walk_range (lo := 0) (n := h.ms.length)) (fun t σ H' => ∃ (L : Addr) (o2 o3 o4 o5 o6 o7 : Option V), σ = [some v, some (.ref L), o2, o3, o4, o5, o6, o7] ∧ Same H H' ∧ H' L = some (.lst ((h.lft t).map .str)))
    ⟨pL, _, _, _, _, _, _, rfl, s1, eL⟩ (fun _ _ _ _ _ => trivial) (fun t x σ H2 H3 hi p hy => ?_) (fun σ H2 p => ?_)
  · obtain ⟨L, o2, o3, o4, o5, o6, o7, rfl, s2, e2⟩ := p
    obtain ⟨rfl, rfl⟩ := hy
    refine ⟨by show 0 ≤ sizeLine; decide, fun E hE => ?_⟩
    have sE : Same H3 (upd H3 E (.lst [])) := Same.new hE
    have hEH : H E = none := s2.free hE
    have eE := upd_same (H := H3) (a := E) (o := .lst [])
    have eL3 := sE _ _ e2
    have EL : L ≠ E := fun z => by subst z; rw [hE] at e2; cases e2
    have s3 := s2.trans sE
    have ll := lft_len (h := h) t
    generalize upd H3 E (.lst []) = H4 at s3 eE eL3 ⊢
    refine ⟨_, rfl, _, rfl, ⟨_, SqL.of eL3⟩, ?_⟩
    refine for_it (walk_listL (K := K) (n := (h.lft t).length) (by rw [List.length_map])) (fun j σ H' => ∃ (o2 o4 o5 o6 o7 : Option V), σ = [some v, some (.ref L), o2, some (.ref E), o4, o5, o6, o7] ∧ Same H H' ∧ H' L = some (.lst ((h.lft t).map .str)) ∧ H' E = some (.lst ((h.led ((h.lft t).take j)).map .str)))
      ⟨_, _, _, _, _, rfl, s3, eL3, eE⟩ (fun j σ H' _ p => let ⟨_, _, _, _, _, _, _, e, _⟩ := p; SqL.of e) (fun j x σ H5 H6 hj p hy => ?_) (fun σ H5 p => ?_)
    · obtain ⟨o2, o4, o5, o6, o7, rfl, s5, e5, eE5⟩ := p
      obtain ⟨rfl, hx⟩ := hy
      have ej : (h.lft t)[j]? = some (h.lft t)[j] := List.getElem?_eq_getElem hj
      rw [List.getElem?_map, ej] at hx
      cases hx
      have etk : (h.lft t).take (j + 1) = (h.lft t).take j ++ [(h.lft t)[j]] := by rw [List.take_succ, ej]; rfl
      generalize (h.lft t)[j] = n at etk ⊢
      refine ⟨_, rfl, .inl ⟨rfl, _, SqL.of eE5⟩, _, rfl, _, rfl, v, n, h, rfl, tv.m s5.tk, lo, fun pA H7 ys s7 hpA eA tA => ⟨_, rfl, ⟨_, SqL.of eA⟩, fun D hD => ?_⟩⟩
      have s57 := s5.trans s7
      refine lc_lst (h.larcs n) (walk_listL (K := K) tA.lenm) hD (fun H s => SqL.of (s _ _ eA)) (fun x => h.gr x == 0) (fun x => .str (h.en x)) (by have := larcs_len lo n; rw [Hall.larcs, List.length_append, List.length_append, List.length_singleton]; omega) (fun i y x H8 H' hi2 s hy N R nn r => ?_) (fun H8 zs s8 e8 t8 => ?_)
      · obtain ⟨rfl, hx⟩ := hy
        obtain ⟨v2, e1, e2⟩ := (tA.m s.tk).at hi2
        rw [e1] at hx
        cases hx
        obtain ⟨ap, xs, rfl, hap, tx⟩ := Tv.tup_inv e2
        cases tx with
        | cons tx1 tx =>
          cases tx with
          | cons tx2 tx =>
            cases tx with
            | cons tx3 tx =>
              cases tx
              cases tx2
              cases tx3
              refine ⟨_, _, rfl, SqT.of hap, rfl, _, _, rfl, _, _, rfl, _, _, rfl, rfl, rfl, ?_⟩
              refine ⟨_, rfl, rfl, _, rfl, ?_⟩
              have ed : decide (V.int (h.gr y : Int) = V.int 0) = (h.gr y == 0) := by
                rw [dec_int]
                by_cases e : h.gr y = 0
                · rw [e]; rfl
                · rw [show (h.gr y == 0) = false from beq_false_of_ne e, beq_eq_false_iff_ne]
                  omega
              rw [ed]
              cases e : (h.gr y == 0) with
              | true => exact iteT ⟨_, rfl, r _ _ (Same.refl _) e (.str _)⟩
              | false => exact iteF (nn _ (Same.refl _) e)
      have et8 : ((h.larcs n).filter fun x => h.gr x == 0).map (fun x => PyData.str (h.en x)) = (h.lends n).map PyData.str := by rw [Hall.lends, List.map_map]; rfl
      rw [et8] at t8
      have ezs := t8.strs_inv
      subst ezs
      have eE8 := (s7.trans s8) _ _ eE5
      have eL8 := (s7.trans s8) _ _ e5
      have ll2 := led_len lo ((h.lft t).take j)
      have ll3 := lends_len lo n
      have ll4 : ((h.lft t).take j).length ≤ h.ms.length := Nat.le_trans (by rw [List.length_take]; omega) ll
      refine ⟨E, D, _, _, rfl, rfl, eE8, e8, by rw [List.length_map, List.length_map]; exact small (by omega), _, _, _, _, _, rfl, (s57.trans s8).mut hEH, by rw [upd_ne EL]; exact eL8, ?_⟩
      rw [upd_same, etk, led_snoc, List.map_append]
    · obtain ⟨o2, o4, o5, o6, o7, rfl, s5, e5, eE5⟩ := p
      rw [List.take_length] at eE5
      refine ⟨_, rfl, _, rfl, ⟨_, SqL.of e5⟩, fun D hD => ?_⟩
      refine lc_lst (h.lft t) (walk_listL (K := K) (by rw [List.length_map])) hD (fun H s => SqL.of (s _ _ e5)) (fun n => decide (n ∈ h.led (h.lft t))) (fun n => .str n) (by omega) (fun i n x H8 H' hi2 s hy N R nn r => ?_) (fun H8 zs s8 e8 t8 => ?_)
      · obtain ⟨rfl, hx⟩ := hy
        rw [List.getElem?_map, hi2] at hx
        cases hx
        refine ⟨rfl, _, rfl, _, rfl, E, _, rfl, .inl (SqL.of (s _ _ eE5)), rfl, flat_strs _, _, rfl, ?_⟩
        rw [if_neg Bool.false_ne_true, inV_str]
        cases e : decide (n ∈ h.led (h.lft t)) with
        | true => exact iteT ⟨_, rfl, r _ _ (Same.refl _) e (.str _)⟩
        | false => exact iteF (nn _ (Same.refl _) e)
      · have ezs := TvAll.strs_inv t8
        rw [ezs] at e8
        exact ⟨D, _, _, _, _, _, _, rfl, s5.trans s8, e8⟩
  · obtain ⟨L, o2, o3, o4, o5, o6, o7, rfl, s2, e2⟩ := p
    refine ⟨_, rfl, by show 0 ≤ sizeLine; decide, fun p hp => ?_⟩
    have sp : Same H2 (upd H2 p (.lst [])) := Same.new hp
    have hs : ∀ d ∈ (h.lft h.ms.length).map PyData.str, Sm d 1 := fun d hd => by
      obtain ⟨n, hn, rfl⟩ := List.mem_map.mp hd
      exact sm_str (lo.str n (lft_sub _ n hn)).1
    refine ⟨.list ((h.lft h.ms.length).map .str), .list [], .lst (SqL.of (sp _ _ e2)) (TvAll.strs _).dp, .lst (SqL.of upd_same) .nil, (sm_list hs).shaped (by decide), Sm.shaped (k := 2) (sm_list (k := 1) (by simp)) (by decide), ?_⟩
    have ee : PyData.eqv (.list ((h.lft h.ms.length).map .str)) (.list []) = decide (h.lft h.ms.length = []) := by
      cases h.lft h.ms.length with
      | nil => simp [PyData.eqv, PyData.eqvAll]
      | cons x l => simp [PyData.eqv, PyData.eqvAll]
    rw [ee]
    exact q _ (s2.trans sp)
end
end K41
/-! the law's rows -/
namespace K41
open PySem PySem.Spec PyProof.Rows L2
open C8 (Cal pe_c)
theorem least_ex (r : Str → Nat) : ∀ l : List Str, l ≠ [] → ∃ n ∈ l, ∀ m ∈ l, r n ≤ r m
  | [], h => absurd rfl h
  | [x], _ => ⟨x, by simp, fun m hm => by simp at hm; rw [hm]; exact Nat.le_refl _⟩
  | x :: y :: l, _ => by
    obtain ⟨n, hn, hm⟩ := least_ex r (y :: l) (by simp)
    by_cases c : r x ≤ r n
    · refine ⟨x, List.mem_cons_self, fun m hm2 => ?_⟩
      rcases List.mem_cons.mp hm2 with rfl | hm2
      · exact Nat.le_refl _
      · exact Nat.le_trans c (hm m hm2)
    · refine ⟨n, List.mem_cons_of_mem _ hn, fun m hm2 => ?_⟩
      rcases List.mem_cons.mp hm2 with rfl | hm2
      · omega
      · exact hm m hm2
def Hall.free (h : Hall) (l : List Str) : List Str := l.filter fun n => decide (n ∉ h.led l)
theorem led_mem {h : Hall} {l : List Str} {n : Str} : n ∈ h.led l ↔ ∃ x ∈ h.arcs, h.gr x = 0 ∧ h.st x ∈ l ∧ h.en x = n := by
  rw [Hall.led, List.mem_flatMap]
  constructor
  · rintro ⟨s, hs, hn⟩
    obtain ⟨x, hx, hg, rfl, he⟩ := lends_mem.mp hn
    exact ⟨x, hx, hg, hs, he⟩
  · rintro ⟨x, hx, hg, hs, he⟩
    exact ⟨_, hs, lends_mem.mpr ⟨x, hx, hg, rfl, he⟩⟩
theorem free_rest {h : Hall} (l : List Str) : (l.filter fun n => decide (n ∉ h.free l)) = l.filter fun n => decide (n ∈ h.led l) := by
  apply List.filter_congr
  intro n hn
  rw [decide_eq_decide]
  rw [Hall.free, List.mem_filter, decide_eq_true_eq]
  constructor
  · intro z
    by_cases c : n ∈ h.led l
    · exact c
    · exact absurd ⟨hn, c⟩ z
  · intro z y
    exact y.2 z
theorem rest_perm {h : Hall} (l : List Str) : (h.free l ++ l.filter fun n => decide (n ∈ h.led l)).Perm l := by
  have := List.filter_append_perm (fun n => decide (n ∉ h.led l)) l
  rw [Hall.free]
  have e : (l.filter fun n => !decide (n ∉ h.led l)) = l.filter fun n => decide (n ∈ h.led l) := by
    apply List.filter_congr
    intro n _
    by_cases c : n ∈ h.led l <;> simp [c]
  rwa [e] at this
theorem rest_less {h : Hall} {r : Str → Nat} (rk : Ranked h r) {l : List Str} (hl : l ≠ []) : (l.filter fun n => decide (n ∈ h.led l)).length < l.length := by
  obtain ⟨n, hn, hm⟩ := least_ex r l hl
  rw [List.length_filter_lt_length_iff_exists]
  refine ⟨n, hn, ?_⟩
  rw [decide_eq_true_eq]
  intro z
  obtain ⟨x, hx, hg, hs, he⟩ := led_mem.mp z
  have := rk.up x hx hg
  have := hm _ hs
  rw [he] at *
  omega
theorem topo_more {h : Hall} (ok : h.Lo) {found left : List Str} (t : Topo h found) (pm : (found ++ left).Perm h.names) (stn : ∀ x ∈ h.arcs, h.st x ∈ h.names) : Topo h (found ++ h.free left) := fun j n x hj hx hg he => by
  by_cases c : j < found.length
  · rw [List.getElem?_append_left c] at hj
    obtain ⟨i, hi, e⟩ := t j n x hj hx hg he
    exact ⟨i, hi, by rw [List.getElem?_append_left (by omega)]; exact e⟩
  · rw [List.getElem?_append_right (by omega)] at hj
    have hn := List.mem_of_getElem? hj
    rw [Hall.free, List.mem_filter, decide_eq_true_eq] at hn
    have hs : h.st x ∈ found ++ left := pm.mem_iff.mpr (stn x hx)
    rcases List.mem_append.mp hs with hs | hs
    · obtain ⟨i, hi⟩ := List.mem_iff_getElem?.mp hs
      have := (List.getElem?_eq_some_iff.mp hi).1
      exact ⟨i, by omega, by rw [List.getElem?_append_left this]; exact hi⟩
    · exact absurd (led_mem.mpr ⟨x, hx, hg, hs, he⟩) hn.2
section
variable {P : Program} {w : World} {K : PySem.W.Frag} {mg : Str → Option Value} {base : Heap}
def sp__law_rows : Sp := fun vs H Q _ => ∃ (v : V) (h : Hall) (r : Str → Nat), vs = [v] ∧ Tv H v h.py ∧ h.Ok ∧ Ranked h r ∧ ∀ p H' L, Same H H' → H p = none → H' p = some (.lst (L.map .str)) → L.Perm h.names → Topo h L → Q (.ref p) H'
theorem c__law_rows (T : Txt K mg) : Cal P w K mg base 2 "_law_rows" (sp__law_rows) [] := by
  refine cal_of T.d__law_rows sc__law_rows (fun vs H Q E h => by first | (obtain ⟨_, rfl, _⟩ := h; rfl) | (obtain ⟨_, _, rfl, _⟩ := h; rfl) | (obtain ⟨_, _, _, rfl, _⟩ := h; rfl) | (obtain ⟨_, _, _, _, rfl, _⟩ := h; rfl) | (obtain ⟨_, _, _, _, _, rfl, _⟩ := h; rfl) | (obtain ⟨_, _, _, _, _, _, rfl, _⟩ := h; rfl) | (obtain ⟨_, _, _, _, _, _, _, rfl, _⟩ := h; rfl) | (obtain ⟨_, _, _, _, _, _, _, _, rfl, _⟩ := h; rfl) | (obtain ⟨_, _, _, _, _, _, _, _, _, rfl, _⟩ := h; rfl) | (obtain ⟨_, _, _, _, _, _, _, _, _, _, rfl, _⟩ := h; rfl) | (obtain ⟨_, _, _, _, _, _, _, _, _, _, _, rfl, _⟩ := h; rfl) | (obtain ⟨_, _, _, _, _, _, _, _, _, _, _, _, rfl, _⟩ := h; rfl)) bi__law_rows (fun f cdv A outer s H vs Q E hr hsp => ?_)
  have hu := hu_of hr
  have hu64 := hr.units
  have hu2 := hu2_of hr
  have hu80 := hu80_of hr
  have nd := sc__law_rows.nd
  refine ⟨_, (pss_cons (ps_par (i := 1) (j := 2) (by rfl) nd rfl rfl (by decide) rfl rfl (pa_cons (pe_c (c__law_names T) hr (by decide) rfl (pa_cons (pv 0) pa_nil)) (pa_cons (pe_lst pa_nil) pa_nil)) (by rfl))
    (pss_cons (ps_while PassesOwn.never (pt_cmpR (op_neLd (K := K) rfl hu64) (pv 1) (pe_lst pa_nil) (nomark _)) (pss_cons (ps_set (i := 3) nd rfl (by first | exact Or.inl rfl | exact Or.inr rfl) (pe_lst pa_nil))
    (pss_cons (ps_for PassesOwn.never rfl (pil (K := K) rfl (pv 1)) (pg_name (i := 4) nd rfl (by first | exact Or.inl rfl | exact Or.inr rfl)) (pss_one (ps_expr (pe_bm PySem.F.plainAttrs_list PySem.F.slot_list_extend PySem.F.type_list_extend mt_extend (pv 3) (pa_cons (pe_lc (own := [("_law_arc", 5), ("_law_end", 6), ("_law_growth", 7)]) rfl nd (pil (K := K) rfl (pe_c (c__law_arcs T) hr (by decide) rfl (pa_cons (pv 0) (pa_cons (pv 4) pa_nil)))) (blkOk_by (own := [("_law_arc", 5), ("_law_end", 6), ("_law_growth", 7)]) (N := n__law_rows) (sc := defScope s__law_rows) (by decide +kernel)) (fun _ _ _ _ _ => (pgt (K := K) (n := 3) rfl (pgs_cons (pg_name (i := 5) nd rfl (by first | exact Or.inl rfl | exact Or.inr rfl)) (pgs_cons (pg_name (i := 6) nd rfl (by first | exact Or.inl rfl | exact Or.inr rfl)) (pgs_cons (pg_name (i := 7) nd rfl (by first | exact Or.inl rfl | exact Or.inr rfl)) pgs_nil))))) (fun _ _ _ _ _ => (pts_one (pt_cmpR op_eq (pv 7) pe_int (nomark _)))) (fun _ _ _ _ _ => (pv 6))) pa_nil)))))
    (pss_cons (ps_set (i := 8) nd rfl (by first | exact Or.inl rfl | exact Or.inr rfl) (pe_lc (own := [("_law_name", 4)]) rfl nd (pil (K := K) rfl (pv 1)) (blkOk_by (own := [("_law_name", 4)]) (N := n__law_rows) (sc := defScope s__law_rows) (by decide +kernel)) (fun _ _ _ _ _ => (pg_name (i := 4) nd rfl (by first | exact Or.inl rfl | exact Or.inr rfl))) (fun _ _ _ _ _ => (pts_one (pt_cmpR (op_notInq (K := K) rfl) (pv 4) (pv 3) (by rfl)))) (fun _ _ _ _ _ => (pv 4))))
    (pss_cons (ps_expr (pe_bm PySem.F.plainAttrs_list PySem.F.slot_list_extend PySem.F.type_list_extend mt_extend (pv 2) (pa_cons (pv 8) pa_nil)))
    (pss_one (ps_setLc (i := 1) (own := [("_law_name", 4)]) rfl nd rfl rfl (sw_true rfl rfl rfl (by decide +kernel)) (pil (K := K) rfl (pv 1)) (blkOk_by (own := [("_law_name", 4)]) (N := n__law_rows) (sc := defScope s__law_rows) (by decide +kernel)) (fun _ _ _ _ _ => (pg_name (i := 4) nd rfl (by first | exact Or.inl rfl | exact Or.inr rfl))) (fun _ _ _ _ _ => (pts_one (pt_cmpR (op_notInq (K := K) rfl) (pv 4) (pv 8) (by rfl)))) (fun _ _ _ _ _ => (pv 4)))))))))
    (pss_one (ps_ret (pv 2))))), ?_⟩
  obtain ⟨v, h, r, rfl, tv, ok, rk, q⟩ := hsp
  have lo := ok.lo
  have n4 := lo.n4
  have hnl : h.names.length = h.ms.length := by rw [Hall.names, List.length_map]
  refine ⟨_, rfl, _, h, rfl, tv, by omega, fun pL H1 s1 hpL eL => ⟨by show 0 ≤ sizeLine; decide, fun F hF => ⟨_, _, rfl, ?_⟩⟩⟩
  have sF : Same H1 (upd H1 F (.lst [])) := Same.new hF
  have pLF : pL ≠ F := fun z => by subst z; rw [hF] at eL; cases eL
  refine ⟨fun m σ H' => ∃ (L : Addr) (left found : List Str) (o3 o4 o5 o6 o7 o8 : Option V), σ = [some v, some (.ref L), some (.ref F), o3, o4, o5, o6, o7, o8] ∧ Same H H' ∧ H' L = some (.lst (left.map .str)) ∧ H' F = some (.lst (found.map .str)) ∧ L ≠ F ∧ m = left.length ∧ (found ++ left).Perm h.names ∧ Topo h found,
    ⟨_, pL, h.names, [], _, _, _, _, _, _, rfl, s1.trans sF, sF _ _ eL, upd_same, pLF, rfl, List.Perm.refl _, fun j n x hj => by simp at hj⟩, ?_⟩
  have hFH : H F = none := s1.free hF
  rintro m σ H2 ⟨L, left, found, o3, o4, o5, o6, o7, o8, rfl, s2, e2, eF2, LF, rfl, pm, tp⟩
  have pml := pm.length_eq
  rw [List.length_append] at pml
  refine ⟨_, rfl, by show 0 ≤ sizeLine; decide, fun p hp => ?_⟩
  have sp : Same H2 (upd H2 p (.lst [])) := Same.new hp
  have hs : ∀ d ∈ left.map PyData.str, Sm d 1 := fun d hd => by
    obtain ⟨n, hn, rfl⟩ := List.mem_map.mp hd
    exact sm_str (lo.str n (pm.mem_iff.mp (List.mem_append_right _ hn))).1
  refine ⟨.list (left.map .str), .list [], .lst (SqL.of (sp _ _ e2)) (TvAll.strs _).dp, .lst (SqL.of upd_same) .nil, (sm_list hs).shaped (by decide), Sm.shaped (k := 2) (sm_list (k := 1) (by simp)) (by decide), _, rfl, ?_⟩
  have ee : PyData.eqv (.list (left.map .str)) (.list []) = decide (left = []) := by
    cases left with
    | nil => simp [PyData.eqv, PyData.eqvAll]
    | cons x l => simp [PyData.eqv, PyData.eqvAll]
  rw [ee]
  have s3 := s2.trans sp
  have e3 := sp _ _ e2
  have eF3 := sp _ _ eF2
  generalize upd H2 p (.lst []) = H3 at s3 e3 eF3 ⊢
  by_cases hl : left = []
  · subst hl
    refine iteF ?_
    rw [List.append_nil] at pm
    exact ⟨_, rfl, q F _ found s3 hFH eF3 pm tp⟩
  rw [decide_eq_false hl]
  refine iteT ⟨fun σ' H' => ∃ m', m' < left.length ∧ _, fun σ' H' z => z, ?_⟩
  refine ⟨by show 0 ≤ sizeLine; decide, fun E hE => ?_⟩
  have sE : Same H3 (upd H3 E (.lst [])) := Same.new hE
  have hEH : H E = none := s3.free hE
  have eE := upd_same (H := H3) (a := E) (o := .lst [])
  have eL3 := sE _ _ e3
  have eF4 := sE _ _ eF3
  have EL : L ≠ E := fun z => by subst z; rw [hE] at e3; cases e3
  have EF : F ≠ E := fun z => by subst z; rw [hE] at eF3; cases eF3
  have s4 := s3.trans sE
  generalize upd H3 E (.lst []) = H4 at s4 eE eL3 eF4 ⊢
  refine ⟨_, rfl, _, rfl, ⟨_, SqL.of eL3⟩, ?_⟩
  refine for_it (walk_listL (K := K) (n := left.length) (by rw [List.length_map])) (fun j σ H' => ∃ (o4 o5 o6 o7 o8 : Option V), σ = [some v, some (.ref L), some (.ref F), some (.ref E), o4, o5, o6, o7, o8] ∧ Same H H' ∧ H' L = some (.lst (left.map .str)) ∧ H' F = some (.lst (found.map .str)) ∧ H' E = some (.lst ((h.led (left.take j)).map .str)))
    ⟨_, _, _, _, _, rfl, s4, eL3, eF4, eE⟩ (fun j σ H' _ p => let ⟨_, _, _, _, _, _, _, e, _⟩ := p; SqL.of e) (fun j x σ H5 H6 hj p hy => ?_) (fun σ H5 p => ?_)
  · obtain ⟨o4, o5, o6, o7, o8, rfl, s5, e5, eF5, eE5⟩ := p
    obtain ⟨rfl, hx⟩ := hy
    have ej : left[j]? = some left[j] := List.getElem?_eq_getElem hj
    rw [List.getElem?_map, ej] at hx
    cases hx
    have etk : left.take (j + 1) = left.take j ++ [left[j]] := by rw [List.take_succ, ej]; rfl
    generalize left[j] = n at etk ⊢
    refine ⟨_, rfl, .inl ⟨rfl, _, SqL.of eE5⟩, _, rfl, _, rfl, v, n, h, rfl, tv.m s5.tk, lo, fun pA H7 ys s7 hpA eA tA => ⟨_, rfl, ⟨_, SqL.of eA⟩, fun D hD => ?_⟩⟩
    have s57 := s5.trans s7
    refine lc_lst (h.larcs n) (walk_listL (K := K) tA.lenm) hD (fun H s => SqL.of (s _ _ eA)) (fun x => h.gr x == 0) (fun x => .str (h.en x)) (by have := larcs_len lo n; rw [Hall.larcs, List.length_append, List.length_append, List.length_singleton]; omega) (fun i y x H8 H' hi2 s hy N R nn r => ?_) (fun H8 zs s8 e8 t8 => ?_)
    · obtain ⟨rfl, hx⟩ := hy
      obtain ⟨v2, e1, e2'⟩ := (tA.m s.tk).at hi2
      rw [e1] at hx
      cases hx
      obtain ⟨ap, xs, rfl, hap, tx⟩ := Tv.tup_inv e2'
      cases tx with
      | cons tx1 tx =>
        cases tx with
        | cons tx2 tx =>
          cases tx with
          | cons tx3 tx =>
            cases tx
            cases tx2
            cases tx3
            refine ⟨_, _, rfl, SqT.of hap, rfl, _, _, rfl, _, _, rfl, _, _, rfl, rfl, rfl, ?_⟩
            refine ⟨_, rfl, rfl, _, rfl, ?_⟩
            have ed : decide (V.int (h.gr y : Int) = V.int 0) = (h.gr y == 0) := by
              rw [dec_int]
              by_cases e : h.gr y = 0
              · rw [e]; rfl
              · rw [show (h.gr y == 0) = false from beq_false_of_ne e, beq_eq_false_iff_ne]
                omega
            rw [ed]
            cases e : (h.gr y == 0) with
            | true => exact iteT ⟨_, rfl, r _ _ (Same.refl _) e (.str _)⟩
            | false => exact iteF (nn _ (Same.refl _) e)
    have et8 : ((h.larcs n).filter fun x => h.gr x == 0).map (fun x => PyData.str (h.en x)) = (h.lends n).map PyData.str := by rw [Hall.lends, List.map_map]; rfl
    rw [et8] at t8
    have ezs := t8.strs_inv
    subst ezs
    have eE8 := (s7.trans s8) _ _ eE5
    have eL8 := (s7.trans s8) _ _ e5
    have eF8 := (s7.trans s8) _ _ eF5
    have ll2 := led_len lo (left.take j)
    have ll3 := lends_len lo n
    have ll4 : (left.take j).length ≤ left.length := by rw [List.length_take]; omega
    refine ⟨E, D, _, _, rfl, rfl, eE8, e8, by rw [List.length_map, List.length_map]; exact small (by omega), _, _, _, _, _, rfl, (s57.trans s8).mut hEH, by rw [upd_ne EL]; exact eL8, by rw [upd_ne EF]; exact eF8, ?_⟩
    rw [upd_same, etk, led_snoc, List.map_append]
  · obtain ⟨o4, o5, o6, o7, o8, rfl, s5, e5, eF5, eE5⟩ := p
    rw [List.take_length] at eE5
    refine ⟨_, rfl, _, rfl, ⟨_, SqL.of e5⟩, fun D hD => ?_⟩
    refine lc_lst left (walk_listL (K := K) (by rw [List.length_map])) hD (fun H s => SqL.of (s _ _ e5)) (fun n => decide (n ∉ h.led left)) (fun n => .str n) (by omega) (fun i n x H8 H' hi2 s hy N R nn r => ?_) (fun H8 zs s8 e8 t8 => ?_)
    · obtain ⟨rfl, hx⟩ := hy
      rw [List.getElem?_map, hi2] at hx
      cases hx
      refine ⟨rfl, _, rfl, _, rfl, E, _, rfl, .inl (SqL.of (s _ _ eE5)), rfl, flat_strs _, _, rfl, ?_⟩
      rw [if_pos rfl, inV_str]
      have en : (!decide (n ∈ h.led left)) = decide (n ∉ h.led left) := by by_cases c : n ∈ h.led left <;> simp [c]
      rw [en]
      cases e : decide (n ∉ h.led left) with
      | true => exact iteT ⟨_, rfl, r _ _ (Same.refl _) e (.str _)⟩
      | false => exact iteF (nn _ (Same.refl _) e)
    have ezs := TvAll.strs_inv t8
    subst ezs
    have e8' : H8 D = some (.lst ((h.free left).map .str)) := e8
    have s58 := s5.trans s8
    have eF8 := s8 _ _ eF5
    have eL8 := s8 _ _ e5
    have DF : D ≠ F := fun z => by subst z; rw [hD] at eF5; cases eF5
    have fl : (h.free left).length ≤ left.length := List.length_filter_le _ _
    refine ⟨_, rfl, .inl ⟨rfl, _, SqL.of eF8⟩, _, rfl, F, D, _, _, rfl, rfl, eF8, e8', by rw [List.length_map, List.length_map]; exact small (by omega), ?_⟩
    have s9 : Same H (upd H8 F (.lst (found.map .str ++ (h.free left).map .str))) := s58.mut hFH
    have eD9 : (upd H8 F (.lst (found.map .str ++ (h.free left).map .str))) D = some (.lst ((h.free left).map .str)) := by rw [upd_ne DF]; exact e8'
    have eL9 : (upd H8 F (.lst (found.map .str ++ (h.free left).map .str))) L = some (.lst (left.map .str)) := by rw [upd_ne LF]; exact eL8
    have eF9 : (upd H8 F (.lst (found.map .str ++ (h.free left).map .str))) F = some (.lst ((found ++ h.free left).map .str)) := by rw [upd_same, List.map_append]
    generalize upd H8 F (.lst (found.map .str ++ (h.free left).map .str)) = H9 at s9 eD9 eL9 eF9 ⊢
    refine ⟨_, rfl, _, rfl, ⟨_, SqL.of eL9⟩, fun D2 hD2 => ?_⟩
    refine lc_lst left (walk_listL (K := K) (by rw [List.length_map])) hD2 (fun H s => SqL.of (s _ _ eL9)) (fun n => decide (n ∉ h.free left)) (fun n => .str n) (by omega) (fun i n x H10 H' hi2 s hy N R nn r => ?_) (fun H10 zs s10 e10 t10 => ?_)
    · obtain ⟨rfl, hx⟩ := hy
      rw [List.getElem?_map, hi2] at hx
      cases hx
      refine ⟨rfl, _, rfl, _, rfl, D, _, rfl, .inl (SqL.of (s _ _ eD9)), rfl, flat_strs _, _, rfl, ?_⟩
      rw [if_pos rfl, inV_str]
      have en : (!decide (n ∈ h.free left)) = decide (n ∉ h.free left) := by by_cases c : n ∈ h.free left <;> simp [c]
      rw [en]
      cases e : decide (n ∉ h.free left) with
      | true => exact iteT ⟨_, rfl, r _ _ (Same.refl _) e (.str _)⟩
      | false => exact iteF (nn _ (Same.refl _) e)
    have ezs := TvAll.strs_inv t10
    subst ezs
    rw [free_rest] at e10
    have D2F : D2 ≠ F := fun z => by subst z; rw [hD2] at eF9; cases eF9
    refine ⟨_, rest_less rk hl, D2, _, found ++ h.free left, _, _, _, _, _, _, rfl, s9.trans s10, e10, s10 _ _ eF9, D2F, rfl, ?_, topo_more lo tp pm fun x hx => (ok.stn hx).1⟩
    rw [List.append_assoc]
    exact ((rest_perm left).append_left found).trans pm
end
end K41
/-! the law's work, its run -/
namespace K41
open PySem PySem.Spec PyProof.Rows L2
open C8 (Cal pe_c)
theorem mergeK_fresh : ∀ (more kvs : List (Key × V)), ((kvs ++ more).map (·.1)).Nodup → mergeK kvs more = kvs ++ more
  | [], kvs, _ => by rw [List.append_nil]; rfl
  | e :: r, kvs, nd => by
    have hv : valV kvs e.1 = none := by
      cases q : valV kvs e.1 with
      | none => rfl
      | some v =>
        exfalso
        have h2 := valV_any e.1 kvs
        rw [q] at h2
        simp only [Option.isSome_some, List.any_eq_true, decide_eq_true_eq] at h2
        obtain ⟨e0, he0, h3⟩ := h2
        rw [List.map_append, List.nodup_append] at nd
        exact nd.2.2 e0.1 (List.mem_map.mpr ⟨e0, he0, rfl⟩) e.1 (by simp) h3
    have e1 : putK kvs e.1 e.2 = kvs ++ [e] := by
      unfold putK
      rw [valV_any, hv]
      rfl
    show mergeK (putK kvs e.1 e.2) r = _
    rw [e1, mergeK_fresh r (kvs ++ [e]) (by rw [List.append_assoc]; exact nd)]
    simp
/-- the next arcs seen -/
theorem BestL.nexts {h : Hall} {st : StT} {F B : Str → Nat → Int} {n : Str} (hn : n ∈ h.names) (p : Nat) : BestL h st F B n p (h.names.map Arc.next) (if 1 ≤ p then mx (F n p) (B n (p - 1) + h.W st n (p - 1)) else F n p) := by
  have tn : tells h st B (.next n) p = B n (p - 1) + h.W st n (p - 1) := rfl
  split
  · rename_i c
    refine ⟨mx_l _ _, fun x hx h1 h2 => ?_, ?_⟩
    · obtain ⟨m, _, rfl⟩ := List.mem_map.mp hx
      have : m = n := h1
      subst this
      rw [tn]
      exact mx_r _ _
    · rcases mx_is (F n p) (B n (p - 1) + h.W st n (p - 1)) with e | e
      · exact .inl e
      · exact .inr ⟨.next n, List.mem_map.mpr ⟨n, hn, rfl⟩, rfl, c, e⟩
  · rename_i c
    exact ⟨Int.le_refl _, fun x hx h1 h2 => by
      obtain ⟨m, _, rfl⟩ := List.mem_map.mp hx
      exact absurd h2 c, .inl rfl⟩
section
variable {P : Program} {w : World} {K : PySem.W.Frag} {mg : Str → Option Value} {base : Heap}
def sp__law_machine : Sp := fun vs H Q _ => ∃ (v : V) (n : Str) (h : Hall), vs = [v, .str n] ∧ Tv H v h.py ∧ h.ms.length ≤ 1000 ∧ n ∈ h.names ∧ ∀ v' H', Same H H' → Tv H' v' (h.mach n).py → Q v' H'
theorem c__law_machine (T : Txt K mg) : Cal P w K mg base 1 "_law_machine" (sp__law_machine) [] := by
  refine cal_of T.d__law_machine sc__law_machine (fun vs H Q E h => by first | (obtain ⟨_, rfl, _⟩ := h; rfl) | (obtain ⟨_, _, rfl, _⟩ := h; rfl) | (obtain ⟨_, _, _, rfl, _⟩ := h; rfl) | (obtain ⟨_, _, _, _, rfl, _⟩ := h; rfl) | (obtain ⟨_, _, _, _, _, rfl, _⟩ := h; rfl) | (obtain ⟨_, _, _, _, _, _, rfl, _⟩ := h; rfl) | (obtain ⟨_, _, _, _, _, _, _, rfl, _⟩ := h; rfl) | (obtain ⟨_, _, _, _, _, _, _, _, rfl, _⟩ := h; rfl) | (obtain ⟨_, _, _, _, _, _, _, _, _, rfl, _⟩ := h; rfl) | (obtain ⟨_, _, _, _, _, _, _, _, _, _, rfl, _⟩ := h; rfl) | (obtain ⟨_, _, _, _, _, _, _, _, _, _, _, rfl, _⟩ := h; rfl) | (obtain ⟨_, _, _, _, _, _, _, _, _, _, _, _, rfl, _⟩ := h; rfl)) bi__law_machine (fun f cdv A outer s H vs Q E hr hsp => ?_)
  have hu := hu_of hr
  have hu64 := hr.units
  have hu2 := hu2_of hr
  have hu80 := hu80_of hr
  have nd := sc__law_machine.nd
  refine ⟨_, (pss_one (ps_ret (pe_ix (ixl (K := K) rfl) (pe_lc (own := [("_law_machine_here", 2)]) rfl nd (pit (K := K) rfl (pe_ix (ixt (K := K) rfl) (pv 0) pe_int (fun _ _ => rfl))) (blkOk_by (own := [("_law_machine_here", 2)]) (N := n__law_machine) (sc := defScope s__law_machine) (by decide +kernel)) (fun _ _ _ _ _ => (pg_name (i := 2) nd rfl (by first | exact Or.inl rfl | exact Or.inr rfl))) (fun _ _ _ _ _ => (pts_one (pt_cmpR op_eq (pe_ix (ixt (K := K) rfl) (pv 2) pe_int (fun _ _ => rfl)) (pv 1) (nomark _)))) (fun _ _ _ _ _ => (pv 2))) pe_int (fun _ _ => rfl)))), ?_⟩
  obtain ⟨v, n, h, rfl, tv, hl, hn, q⟩ := hsp
  obtain ⟨a, m, b, ms, bs, rfl, ha, hm, tm, hb, tb⟩ := Hall.inv tv
  refine ⟨_, rfl, _, _, 0, _, rfl, rfl, SqT.of ha, atI_nat rfl, _, rfl, ⟨_, SqT.of hm⟩, fun D hD => ?_⟩
  refine lc_lst h.ms (walk_tupL (K := K) tm.lenm) hD (fun H s => SqT.of (s _ _ hm)) (fun m => decide (m.nm = n)) Mach.py (by omega) (fun i mm x H1 H' hi s hy N R nn r => ?_) (fun H' ys s e t => ?_)
  · obtain ⟨rfl, hx⟩ := hy
    obtain ⟨v, e1, e2⟩ := (tm.m s.tk).at hi
    rw [e1] at hx
    cases hx
    obtain ⟨a1, p1, ps1, rfl, h1, h2, h3⟩ := Mach.inv e2
    refine ⟨rfl, _, rfl, _, _, 0, _, rfl, rfl, SqT.of h1, atI_nat rfl, _, rfl, rfl, _, rfl, ?_⟩
    rw [dec_str]
    cases c : decide (mm.nm = n) with
    | true => exact iteT ⟨_, rfl, r _ _ (Same.refl _) c e2⟩
    | false => exact iteF (nn _ (Same.refl _) c)
  · have e0 : (h.ms.filter fun m => decide (m.nm = n))[0]? = some (h.mach n) := by
      rw [← find_mach hn, ← List.head?_eq_getElem?, List.head?_filter]
    obtain ⟨v0, f1, f2⟩ := t.at e0
    exact ⟨_, _, _, _, rfl, rfl, SqL.of e, atI_nat f1, q _ _ s f2⟩
def sp__law_work : Sp := fun vs H Q _ => ∃ (v : V) (d : Addr) (nm : Str) (p : Nat) (h : Hall) (st : StT), vs = [v, .ref d, .str nm, .int (p : Int)] ∧ Tv H v h.py ∧ h.Ok ∧ nm ∈ h.names ∧ H d = some (.dT (stK st)) ∧ ∀ H', Same H H' → Q (.int (h.W st nm p)) H'
theorem c__law_work (T : Txt K mg) : Cal P w K mg base 2 "_law_work" (sp__law_work) [] := by
  refine cal_of T.d__law_work sc__law_work (fun vs H Q E h => by first | (obtain ⟨_, rfl, _⟩ := h; rfl) | (obtain ⟨_, _, rfl, _⟩ := h; rfl) | (obtain ⟨_, _, _, rfl, _⟩ := h; rfl) | (obtain ⟨_, _, _, _, rfl, _⟩ := h; rfl) | (obtain ⟨_, _, _, _, _, rfl, _⟩ := h; rfl) | (obtain ⟨_, _, _, _, _, _, rfl, _⟩ := h; rfl) | (obtain ⟨_, _, _, _, _, _, _, rfl, _⟩ := h; rfl) | (obtain ⟨_, _, _, _, _, _, _, _, rfl, _⟩ := h; rfl) | (obtain ⟨_, _, _, _, _, _, _, _, _, rfl, _⟩ := h; rfl) | (obtain ⟨_, _, _, _, _, _, _, _, _, _, rfl, _⟩ := h; rfl) | (obtain ⟨_, _, _, _, _, _, _, _, _, _, _, rfl, _⟩ := h; rfl) | (obtain ⟨_, _, _, _, _, _, _, _, _, _, _, _, rfl, _⟩ := h; rfl)) bi__law_work (fun f cdv A outer s H vs Q E hr hsp => ?_)
  have hu := hu_of hr
  have hu64 := hr.units
  have hu2 := hu2_of hr
  have hu80 := hu80_of hr
  have nd := sc__law_work.nd
  refine ⟨_, (pss_cons (ps_asg (pe_slice (sl_tupK (K := K) rfl) (pe_c (c__law_machine T) hr (by decide) rfl (pa_cons (pv 0) (pa_cons (pv 2) pa_nil))) (po_some pe_int) po_none) (pgt (K := K) (n := 2) rfl (pgs_cons (pg_name (i := 4) nd rfl (by first | exact Or.inl rfl | exact Or.inr rfl)) (pgs_cons (pg_name (i := 5) nd rfl (by first | exact Or.inl rfl | exact Or.inr rfl)) pgs_nil))))
    (pss_one (ps_ret (pe_op op_add (pv 4) (pe_callB (cr_sumK (K := K) rfl) (by rfl) T.b_sum (by decide +kernel) (pa_cons (pe_lc (own := [("_law_index", 6)]) rfl nd (pi_range1 (by rfl) T.b_range (pa_cons (pe_callB (cr_len (K := K) rfl) (by rfl) T.b_len (by decide +kernel) (pa_cons (pv 5) pa_nil)) pa_nil)) (blkOk_by (own := [("_law_index", 6)]) (N := n__law_work) (sc := defScope s__law_work) (by decide +kernel)) (fun _ _ _ _ _ => (pg_name (i := 6) nd rfl (by first | exact Or.inl rfl | exact Or.inr rfl))) (fun _ _ _ _ _ => pts_nil) (fun _ _ _ _ _ => (pe_dget2 hu (pv 1) (pe_tup (pa_cons (pv 2) (pa_cons (pv 3) (pa_cons (pv 6) pa_nil)))) pe_int ⟨by rfl, by rfl, by rfl, by rfl⟩))) pa_nil)))))), ?_⟩
  obtain ⟨v, d, nm, p, h, st, rfl, tv, ok, hn, hd, q⟩ := hsp
  have mm := mach_mem hn
  have sm := ok.small _ mm.1
  have n4 := ok.n4
  refine ⟨_, rfl, _, rfl, v, nm, h, rfl, tv, by omega, hn, fun v1 H1 s1 t1 => ?_⟩
  obtain ⟨ap, pp, ps, rfl, hap, hpp, tps⟩ := Mach.inv t1
  refine ⟨_, rfl, ap, _, rfl, SqT.of hap, fun z => absurd z.1 (show ¬ HT.sIx 3 0 (some 1) = 0 by decide), fun _ p5 hp5 => ?_⟩
  have s5 : Same H1 (upd H1 p5 (.tup (cutV [.str (h.mach nm).nm, .int (h.mach nm).tm, .ref pp] (some 1) none))) := Same.new hp5
  refine ⟨p5, [.int (h.mach nm).tm, .ref pp], rfl, SqT.of upd_same, rfl, _, _, rfl, _, _, rfl, rfl, ?_⟩
  have hpp5 := s5 _ _ hpp
  have s15 := s1.trans s5
  generalize upd H1 p5 (.tup (cutV [.str (h.mach nm).nm, .int (h.mach nm).tm, .ref pp] (some 1) none)) = H5 at hpp5 s15 ⊢
  refine ⟨_, rfl, _, rfl, pp, ps, rfl, .inr (SqT.of hpp5), _, rfl, by have := tps.lenm; omega, by have := tps.lenm; omega, fun D hD => ?_⟩
  have lx := tps.lenm
  refine lc_lst (List.range (h.mach nm).ps.length) (walk_rangeL (lo := 0) (by rw [← lx]; rfl)) hD (fun _ _ => trivial) (fun _ => true) (fun i => .int (stV st nm p i)) (by rw [List.length_range]; omega) (fun i y x H2 H' hi s hy N R n r' => ?_) (fun H2 ys s2 e2 t2 => ?_)
  · obtain ⟨rfl, rfl⟩ := hy
    have iy : y = i := by
      have := (List.getElem?_eq_some_iff.mp hi).2
      simpa using this.symm
    subst iy
    have hd2 := (s15.trans s) _ _ hd
    refine ⟨rfl, yesT ⟨_, rfl, _, rfl, .inr ⟨_, .inl hd2⟩, _, rfl, _, rfl, _, rfl, by show 3 ≤ sizeLine; decide, fun p1 hp1 => ⟨_, DGet.t (k := [Sum.inr nm, Sum.inl (p : Int), Sum.inl (0 + (y : Int))]) ((Same.new hp1) _ _ hd2) upd_same, r' _ _ (Same.new hp1) rfl ?_⟩⟩⟩
    rw [valV_stK, Int.zero_add]
    unfold stV
    cases lkT st [Sum.inr nm, Sum.inl (p : Int), Sum.inl (y : Int)] with
    | none => exact .int 0
    | some z => exact .int z
  · rw [flt_true] at t2
    have ey := TvAll.ints_of t2
    subst ey
    exact ⟨_, _, rfl, SqL.of e2, _, _, rfl, rfl, q _ (s15.trans s2)⟩
end
end K41
/-! the law's own held run -/
namespace K41
open PySem PySem.Spec PyProof.Rows L2
open C8 (Cal pe_c)
theorem tSeq_mid {t u : TS} {D : Ends} {σ : L2.St} {H : Hp} (G : L2.St → Hp → Prop) (h1 : ∀ E : Ends, (∀ σ' H', G σ' H' → E.nx σ' H') → t E σ H) (h2 : ∀ σ' H', G σ' H' → u D σ' H') : tSeq t u D σ H := h1 _ h2
theorem paired_mapR {α β γ : Type} {R : α → γ → Prop} {f : β → γ} : ∀ {xs : List α} {ys : List β}, Paired (fun a b => R a (f b)) xs ys → Paired R xs (ys.map f)
  | _, _, .nil => .nil
  | _, _, .cons a t => .cons a (paired_mapR t)
theorem nodup_inr {l : List Str} (h : l.Nodup) : (l.map (Sum.inr : Str → Key)).Nodup := List.pairwise_map.mpr (h.imp fun a z => a (Sum.inr.inj z))
section
variable {P : Program} {w : World} {K : PySem.W.Frag} {mg : Str → Option Value} {base : Heap}
def sp__law_held_run : Sp := fun vs H Q _ => ∃ (v : V) (d fd cd : Addr) (many : Nat) (h : Hall) (r : Str → Nat) (st fl : StT) (B : Str → Nat → Int), vs = [v, .ref d, .ref fd, .ref cd, .int (many : Int)] ∧ Tv H v h.py ∧ h.Ok ∧ Ranked h r ∧ H d = some (.dT (stK st)) ∧
  H fd = some (.dT (stK fl)) ∧ H cd = some (.lst []) ∧ many ≤ 1000 ∧ IsB h st (flV fl) B ∧ ∀ p H', Same H H' → H p = none → RunAt H' p h.names many B → Q (.ref p) H'
theorem c__law_held_run (T : Txt K mg) : Cal P w K mg base 3 "_law_held_run" (sp__law_held_run) [] := by
  refine cal_of T.d__law_held_run sc__law_held_run (fun vs H Q E h => by first | (obtain ⟨_, rfl, _⟩ := h; rfl) | (obtain ⟨_, _, rfl, _⟩ := h; rfl) | (obtain ⟨_, _, _, rfl, _⟩ := h; rfl) | (obtain ⟨_, _, _, _, rfl, _⟩ := h; rfl) | (obtain ⟨_, _, _, _, _, rfl, _⟩ := h; rfl) | (obtain ⟨_, _, _, _, _, _, rfl, _⟩ := h; rfl) | (obtain ⟨_, _, _, _, _, _, _, rfl, _⟩ := h; rfl) | (obtain ⟨_, _, _, _, _, _, _, _, rfl, _⟩ := h; rfl) | (obtain ⟨_, _, _, _, _, _, _, _, _, rfl, _⟩ := h; rfl) | (obtain ⟨_, _, _, _, _, _, _, _, _, _, rfl, _⟩ := h; rfl) | (obtain ⟨_, _, _, _, _, _, _, _, _, _, _, rfl, _⟩ := h; rfl) | (obtain ⟨_, _, _, _, _, _, _, _, _, _, _, _, rfl, _⟩ := h; rfl)) bi__law_held_run (fun f cdv A outer s H vs Q E hr hsp => ?_)
  have hu := hu_of hr
  have hu64 := hr.units
  have hu2 := hu2_of hr
  have hu80 := hu80_of hr
  have nd := sc__law_held_run.nd
  refine ⟨_, (pss_cons (ps_asg (pe_tup (pa_cons (pe_callTy (call_dictP rfl) (by rfl) T.b_dict (by decide +kernel) (pa_cons (pe_lc (own := [("_law_name", 7)]) rfl nd (pil (K := K) rfl (pe_c (c__law_names T) hr (by decide) rfl (pa_cons (pv 0) pa_nil))) (blkOk_by (own := [("_law_name", 7)]) (N := n__law_held_run) (sc := defScope s__law_held_run) (by decide +kernel)) (fun _ _ _ _ _ => (pg_name (i := 7) nd rfl (by first | exact Or.inl rfl | exact Or.inr rfl))) (fun _ _ _ _ _ => pts_nil) (fun _ _ _ _ _ => (pe_tup (pa_cons (pv 7) (pa_cons (pe_lst pa_nil) pa_nil))))) pa_nil)) (pa_cons (pe_c (c__law_rows T) hr (by decide) rfl (pa_cons (pv 0) pa_nil)) pa_nil))) (pgt (K := K) (n := 2) rfl (pgs_cons (pg_name (i := 5) nd rfl (by first | exact Or.inl rfl | exact Or.inr rfl)) (pgs_cons (pg_name (i := 6) nd rfl (by first | exact Or.inl rfl | exact Or.inr rfl)) pgs_nil))))
    (pss_cons (ps_for PassesOwn.never rfl (pi_range1 (by rfl) T.b_range (pa_cons (pv 4) pa_nil)) (pg_name (i := 8) nd rfl (by first | exact Or.inl rfl | exact Or.inr rfl)) (pss_one (ps_for PassesOwn.never rfl (pil (K := K) rfl (pv 6)) (pg_name (i := 7) nd rfl (by first | exact Or.inl rfl | exact Or.inr rfl)) (pss_cons (ps_set (i := 9) nd rfl (by first | exact Or.inl rfl | exact Or.inr rfl) (pe_dget2 hu (pv 2) (pe_tup (pa_cons (pv 7) (pa_cons (pv 8) pa_nil))) pe_int ⟨by rfl, by rfl, by rfl, by rfl⟩))
    (pss_cons (ps_if (pt_cmpR op_gt (pv 8) pe_int (nomark _)) (pss_one (ps_set (i := 9) nd rfl (by first | exact Or.inl rfl | exact Or.inr rfl) (pe_callB (call_max2 rfl) (by rfl) T.b_max (by decide +kernel) (pa_cons (pv 9) (pa_cons (pe_op op_add (pe_ix (ixl (K := K) rfl) (pe_dget hu (pv 5) (pv 7) (fun _ _ => rfl)) (pe_un un_neg pe_int) (fun _ _ => rfl)) (pe_c (c__law_work T) hr (by decide) rfl (pa_cons (pv 0) (pa_cons (pv 1) (pa_cons (pv 7) (pa_cons (pe_op op_sub (pv 8) pe_int) pa_nil)))))) pa_nil))))) pss_nil)
    (pss_cons (ps_for PassesOwn.never rfl (pit (K := K) rfl (pe_ix (ixt (K := K) rfl) (pv 0) pe_int (fun _ _ => rfl))) (pgt (K := K) (n := 4) rfl (pgs_cons (pg_name (i := 10) nd rfl (by first | exact Or.inl rfl | exact Or.inr rfl)) (pgs_cons (pg_name (i := 11) nd rfl (by first | exact Or.inl rfl | exact Or.inr rfl)) (pgs_cons (pg_name (i := 12) nd rfl (by first | exact Or.inl rfl | exact Or.inr rfl)) (pgs_cons (pg_name (i := 13) nd rfl (by first | exact Or.inl rfl | exact Or.inr rfl)) pgs_nil))))) (pss_cons (ps_if (PW.pt (pw_and (pt_cmpR op_eq (pv 11) (pv 7) (nomark _)) (pw_and1 (pt_cmpR op_ge (pv 8) (pv 13) (nomark _))))) (pss_one (ps_set (i := 9) nd rfl (by first | exact Or.inl rfl | exact Or.inr rfl) (pe_callB (call_max2 rfl) (by rfl) T.b_max (by decide +kernel) (pa_cons (pv 9) (pa_cons (pe_op op_add (pe_ix (ixl (K := K) rfl) (pe_dget hu (pv 5) (pv 10) (fun _ _ => rfl)) (pe_op op_sub (pv 8) (pv 13)) (fun _ _ => rfl)) (pe_c (c__law_work T) hr (by decide) rfl (pa_cons (pv 0) (pa_cons (pv 1) (pa_cons (pv 10) (pa_cons (pe_op op_sub (pv 8) (pv 13)) pa_nil)))))) pa_nil))))) pss_nil)
    (pss_one (ps_if (PW.pt (pw_and (pt_cmpR op_eq (pv 10) (pv 7) (nomark _)) (pw_and1 (pt_cmpR op_ge (pv 8) (pe_op op_sub (pv 12) (pv 13)) (nomark _))))) (pss_one (ps_set (i := 9) nd rfl (by first | exact Or.inl rfl | exact Or.inr rfl) (pe_callB (call_max2 rfl) (by rfl) T.b_max (by decide +kernel) (pa_cons (pv 9) (pa_cons (pe_ix (ixl (K := K) rfl) (pe_dget hu (pv 5) (pv 11) (fun _ _ => rfl)) (pe_op op_sub (pe_op op_add (pv 8) (pv 13)) (pv 12)) (fun _ _ => rfl)) pa_nil))))) pss_nil))))
    (pss_cons (ps_for PassesOwn.never rfl (pil (K := K) rfl (pv 3)) (pgt (K := K) (n := 3) rfl (pgs_cons (pg_name (i := 14) nd rfl (by first | exact Or.inl rfl | exact Or.inr rfl)) (pgs_cons (pg_name (i := 15) nd rfl (by first | exact Or.inl rfl | exact Or.inr rfl)) (pgs_cons (pg_name (i := 16) nd rfl (by first | exact Or.inl rfl | exact Or.inr rfl)) pgs_nil)))) (pss_one (ps_if (PW.pt (pw_and (pt_cmpR op_eq (pv 14) (pv 7) (nomark _)) (pw_and1 (pt_cmpR op_ge (pv 8) (pv 16) (nomark _))))) (pss_one (ps_set (i := 9) nd rfl (by first | exact Or.inl rfl | exact Or.inr rfl) (pe_callB (call_max2 rfl) (by rfl) T.b_max (by decide +kernel) (pa_cons (pv 9) (pa_cons (pe_op op_add (pe_ix (ixl (K := K) rfl) (pe_dget hu (pv 5) (pv 15) (fun _ _ => rfl)) (pe_op op_sub (pv 8) (pv 16)) (fun _ _ => rfl)) (pe_c (c__law_work T) hr (by decide) rfl (pa_cons (pv 0) (pa_cons (pv 1) (pa_cons (pv 15) (pa_cons (pe_op op_sub (pv 8) (pv 16)) pa_nil)))))) pa_nil))))) pss_nil)))
    (pss_one (ps_expr (pe_bm PySem.F.plainAttrs_list PySem.F.slot_list_append PySem.F.type_list_append mt_append (pe_dget hu (pv 5) (pv 7) (fun _ _ => rfl)) (pa_cons (pv 9) pa_nil)))))))))))
    (pss_one (ps_ret (pe_callTy (call_dictP rfl) (by rfl) T.b_dict (by decide +kernel) (pa_cons (pe_lock (pe_lc (own := [("_law_name", 7)]) rfl nd (pi_keys (pv 5)) (blkOk_by (own := [("_law_name", 7)]) (N := n__law_held_run) (sc := defScope s__law_held_run) (by decide +kernel)) (fun _ _ _ _ _ => (pg_name (i := 7) nd rfl (by first | exact Or.inl rfl | exact Or.inr rfl))) (fun _ _ _ _ _ => pts_nil) (fun _ _ _ _ _ => (pe_tup (pa_cons (pv 7) (pa_cons (pe_callTy (cr_tuple (K := K) rfl) (by rfl) T.b_tuple (by decide +kernel) (pa_cons (pe_dget hu (pv 5) (pv 7) (fun _ _ => rfl)) pa_nil)) pa_nil)))))) pa_nil)))))), ?_⟩
  obtain ⟨v, d, fd, cd, many, h, r, st, fl, B, rfl, tv, ok, rk, hd, hfd, hcd, hmany, ib, q⟩ := hsp
  have hnl : h.names.length = h.ms.length := by rw [Hall.names, List.length_map]
  have n4 := ok.n4
  have b5 := ok.b5
  refine ⟨_, rfl, _, h, rfl, tv, by omega, fun pN H1 s1 hpN eN => ⟨_, rfl, ⟨_, SqL.of eN⟩, fun D0 hD0 => ?_⟩⟩
  -- [(name, []) ..]
  refine lc_it (walk_listL (K := K) (n := h.names.length) (by rw [List.length_map])) (fun i H' => Same H1 H' ∧ ∃ (prs : List (Str × Addr)) (ts : List Addr), prs.map (·.1) = h.names.take i ∧ (prs.map (·.2)).Nodup ∧ (∀ e ∈ prs, H' e.2 = some (.lst []) ∧ H1 e.2 = none) ∧ H' D0 = some (.lst (ts.map V.ref)) ∧ (∀ e ∈ prs, e.2 ≠ D0) ∧
      Paired (fun t (e : Str × Addr) => H' t = some (.tup [.str e.1, .ref e.2])) ts prs)
    ⟨Same.new hD0, [], [], rfl, .nil, fun e he => (by cases he), upd_same, fun e he => (by cases he), .nil⟩ (fun i H' _ p => SqL.of (p.1 _ _ eN)) (fun i x H2 H3 hi p hy => ?_) (fun H2 p => ?_)
  · obtain ⟨s2, prs, ts, ek, ea, ep, eD, nD, pt⟩ := p
    obtain ⟨rfl, hx⟩ := hy
    have en : h.names[i]? = some h.names[i] := List.getElem?_eq_getElem hi
    rw [List.getElem?_map, en] at hx
    cases hx
    have etk : h.names.take (i + 1) = h.names.take i ++ [h.names[i]] := by rw [List.take_succ, en]; rfl
    generalize h.names[i] = n at etk ⊢
    refine ⟨rfl, yesG ⟨_, rfl, by show 0 ≤ sizeLine; decide, fun l hl => ⟨by show 2 ≤ sizeLine; decide, fun t ht => ?_⟩⟩⟩
    have k1 : Same H3 (upd H3 l (.lst [])) := Same.new hl
    have k2 : Same _ (upd _ t (.tup [.str n, .ref l])) := Same.new ht
    have k := k1.trans k2
    have eD2 := k _ _ eD
    have hl1 : H1 l = none := s2.free hl
    have lD : l ≠ D0 := fun z => by subst z; rw [hl] at eD; cases eD
    have hlen : prs.length ≤ 4 := by
      have := congrArg List.length ek
      rw [List.length_map, List.length_take] at this
      omega
    have tl : ts.length = prs.length := Paired.length pt
    have el : (upd (upd H3 l (.lst [])) t (.tup [.str n, .ref l])) l = some (.lst []) := k2 _ _ upd_same
    refine ⟨ts.map V.ref, eD2, smallL (by rw [List.length_map]; omega), (s2.trans k).mut hD0, prs ++ [(n, l)], ts ++ [t], ?_, ?_, fun e he => ?_, ?_, fun e he => ?_, ?_⟩
    · rw [List.map_append, ek, etk]
      rfl
    · rw [List.map_append, List.nodup_append]
      refine ⟨ea, by simp, fun a ha b hb => ?_⟩
      simp at hb
      subst hb
      obtain ⟨e1, he1, rfl⟩ := List.mem_map.mp ha
      intro z
      have := (ep e1 he1).1
      rw [z, hl] at this
      cases this
    · rcases List.mem_append.mp he with he | he
      · exact ⟨by rw [upd_ne (nD e he)]; exact k _ _ (ep e he).1, (ep e he).2⟩
      · simp at he
        subst he
        exact ⟨by rw [upd_ne lD]; exact el, hl1⟩
    · rw [upd_same, List.map_append]
      rfl
    · rcases List.mem_append.mp he with he | he
      · exact nD e he
      · simp at he
        subst he
        exact lD
    · refine Paired.snoc (Paired.mapP pt fun t e q => (TK.lst eD2) _ _ (k _ _ q)) ?_
      exact (TK.lst eD2) _ _ upd_same
  obtain ⟨s2, prs, ts, ek, ea, ep, eD, nD, pt⟩ := p
  rw [List.take_length] at ek
  have n1 : (prs.map (·.1)).Nodup := by rw [ek]; exact ok.nd
  have emk : mergeK [] (prK prs) = prK prs := by
    rw [mergeK_fresh _ _ ?_, List.nil_append]
    rw [List.nil_append, prK, List.map_map]
    have : (prs.map ((fun e : Key × V => e.1) ∘ fun e : Str × Addr => ((Sum.inr e.1 : Key), V.ref e.2))) = (prs.map (·.1)).map Sum.inr := by rw [List.map_map]; rfl
    rw [this]
    exact nodup_inr n1
  refine ⟨D0, ts, prK prs, rfl, SqL.of eD, ?_, fun D hD => ?_⟩
  · refine paired_mapR ?_
    exact Paired.mapP pt fun t e q => SqT.of q
  rw [emk]
  have s3 : Same H2 (upd H2 D (.dK (prK prs))) := Same.new hD
  have eD3 := upd_same (H := H2) (a := D) (o := .dK (prK prs))
  have ep3 : ∀ e ∈ prs, (upd H2 D (.dK (prK prs))) e.2 = some (.lst []) ∧ H1 e.2 = none := fun e he => ⟨s3 _ _ (ep e he).1, (ep e he).2⟩
  have s13 := s2.trans s3
  generalize upd H2 D (.dK (prK prs)) = H3 at s13 eD3 ep3 ⊢
  have sH3 := s1.trans s13
  refine ⟨_, rfl, v, h, r, rfl, tv.m sH3.tk, ok, rk, fun D2 H4 L s4 hD2 eL perm top => ⟨by show 2 ≤ sizeLine; decide, fun tp htp => ?_⟩⟩
  have s5 : Same H4 (upd H4 tp (.tup [.ref D, .ref D2])) := Same.new htp
  refine ⟨tp, _, rfl, SqT.of upd_same, rfl, _, _, rfl, _, _, rfl, rfl, ?_⟩
  have Llen : L.length = h.names.length := perm.length_eq
  have nn : ∀ e ∈ prs, H e.2 = none ∧ e.2 ≠ D2 := fun e he => ⟨s1.free (ep3 e he).2, fun z => by
    have := (ep3 e he).1
    rw [z, hD2] at this
    cases this⟩
  have g5 : Grow H D2 D L prs B (upd H4 tp (.tup [.ref D, .ref D2])) fun _ => 0 := ⟨(sH3.trans s4).trans s5, s5 _ _ eL, s5 _ _ (s4 _ _ eD3), fun e he => s5 _ _ (s4 _ _ (ep3 e he).1)⟩
  have pex : ∀ n ∈ h.names, ∃ a, (n, a) ∈ prs := fun n hn => prK_ex (by rw [ek]; exact hn)
  have pin : ∀ e ∈ prs, e.1 ∈ h.names := fun e he => by rw [← ek]; exact List.mem_map.mpr ⟨e, he, rfl⟩
  generalize upd H4 tp (.tup [.ref D, .ref D2]) = H5 at g5 ⊢
  refine ⟨_, rfl, _, rfl, by omega, by omega, ?_⟩
  have et : ((many : Int)).toNat = many := rfl
  rw [et]
  refine for_it (walk_range (lo := 0) (n := many)) (fun t σ H' => (∃ o7 o8 o9 o10 o11 o12 o13 o14 o15 o16, σ = [some v, some (.ref d), some (.ref fd), some (.ref cd), some (.int (many : Int)), some (.ref D), some (.ref D2), o7, o8, o9, o10, o11, o12, o13, o14, o15, o16]) ∧ Grow H D2 D L prs B H' fun _ => t)
    ⟨⟨_, _, _, _, _, _, _, _, _, _, rfl⟩, g5⟩ (fun _ _ _ _ _ => trivial) (fun t x σ H8 H9 hi p hy => ?_) (fun σ H8 p => ?_)
  · obtain ⟨⟨o7, o8, o9, o10, o11, o12, o13, o14, o15, o16, rfl⟩, g8⟩ := p
    obtain ⟨rfl, rfl⟩ := hy
    have e0 : V.int (0 + (t : Int)) = V.int (t : Int) := by rw [Int.zero_add]
    dsimp only
    rw [e0]
    refine ⟨_, rfl, _, rfl, ⟨_, SqL.of g8.o⟩, ?_⟩
    refine for_it (walk_listL (K := K) (n := h.names.length) (by rw [List.length_map, Llen])) (fun j σ H' => (∃ o7 o9 o10 o11 o12 o13 o14 o15 o16, σ = [some v, some (.ref d), some (.ref fd), some (.ref cd), some (.int (many : Int)), some (.ref D), some (.ref D2), o7, some (.int (t : Int)), o9, o10, o11, o12, o13, o14, o15, o16]) ∧ Grow H D2 D L prs B H' fun n => if n ∈ L.take j then t + 1 else t)
      ⟨⟨_, _, _, _, _, _, _, _, _, rfl⟩, g8.len fun e _ => by simp⟩ (fun j σ H' _ p => SqL.of p.2.o) (fun j x σ H10 H11 hj p hy => ?_) (fun σ H10 p => ?_)
    · obtain ⟨⟨o7, o9, o10, o11, o12, o13, o14, o15, o16, rfl⟩, g10⟩ := p
      obtain ⟨rfl, hx⟩ := hy
      have hj' : j < L.length := by rw [Llen]; exact hj
      have ej : L[j]? = some L[j] := List.getElem?_eq_getElem hj'
      rw [List.getElem?_map, ej] at hx
      cases hx
      have nL : L[j] ∈ h.names := perm.mem_iff.mp (List.getElem_mem hj')
      generalize L[j] = n at ej nL ⊢
      have nnot : n ∉ L.take j := fun hm => by
        obtain ⟨i2, hi2⟩ := List.mem_iff_getElem?.mp hm
        rw [List.getElem?_take] at hi2
        split at hi2
        · rename_i hlt
          have nd2 : L.Nodup := perm.nodup_iff.mpr ok.nd
          obtain ⟨q1, e1⟩ := List.getElem?_eq_some_iff.mp hi2
          obtain ⟨q2, e2⟩ := List.getElem?_eq_some_iff.mp ej
          have := (List.getElem_inj nd2).mp (e1.trans e2.symm)
          omega
        · cases hi2
      obtain ⟨adn, hadn⟩ := pex _ nL
      -- the floor
      refine ⟨_, rfl, fd, rfl, .inr ⟨_, .inl (g10.s _ _ hfd)⟩, _, rfl, _, rfl, by show 2 ≤ sizeLine; decide, fun p12 hp12 => ⟨_, DGet.t (k := [Sum.inr n, Sum.inl (t : Int)]) ((Same.new hp12) _ _ (g10.s _ _ hfd)) upd_same, ?_⟩⟩
      have k12 : Same H11 (upd H11 p12 (.tup [.str n, .int (t : Int)])) := Same.new hp12
      have g12 := g10.m k12
      rw [valV_stK]
      have eg : (((lkT fl [Sum.inr n, Sum.inl (t : Int)]).map V.int).getD (.int 0)) = .int (flV fl n t) := by
        unfold flV
        cases lkT fl [Sum.inr n, Sum.inl (t : Int)] <;> rfl
      rw [eg]
      generalize upd H11 p12 (.tup [.str n, .int (t : Int)]) = H12 at g12 ⊢
      -- the machine's own last turn
      dsimp only
      refine tSeq_mid (fun σ' H' => (∃ acc : Int, σ' = [some v, some (.ref d), some (.ref fd), some (.ref cd), some (.int (many : Int)), some (.ref D), some (.ref D2), some (.str n), some (.int (t : Int)), some (.int acc), o10, o11, o12, o13, o14, o15, o16] ∧ BestL h st (flV fl) B n t (h.names.map Arc.next) acc) ∧ Grow H D2 D L prs B H' fun n => if n ∈ L.take j then t + 1 else t) (fun En kk => ?_) (fun σ13 H13 pp => ?_)
      · refine tIfS_any (fun b H' => Same H12 H' ∧ (b = true ↔ 1 ≤ t)) (fun Qb k => ?_) (fun H13 gg => ?_) (fun H13 gg => ?_)
        · refine ⟨_, rfl, _, _, rfl, rfl, _, rfl, k _ _ ⟨Same.refl _, ?_⟩⟩
          rw [decide_eq_true_eq]
          omega
        · have ht := gg.2.mp rfl
          have g13 := g12.m gg.1
          have hrow := g13.r _ hadn
          dsimp only at hrow
          rw [if_neg nnot] at hrow
          have er : rowI B n t = rowI B n (t - 1) ++ [B n (t - 1)] := by
            rw [← rowI_snoc]
            congr 1
            omega
          rw [er, List.map_append] at hrow
          refine ⟨_, rfl, _, rfl, _, rfl, D, .ref adn, rfl, by rw [← prK_get n1 hadn]; exact DGet.k (k := Sum.inr n) g13.d, _, rfl, adn, _, _, .int (B n (t - 1)), rfl, rfl, SqL.of hrow, atI_last _ _, _, rfl, _, rfl, _, rfl, _, rfl, _, _, rfl, rfl, ?_⟩
          have e1 : V.int ((t : Int) - 1) = V.int ((t - 1 : Nat) : Int) := by congr 1; omega
          dsimp only
          rw [e1]
          refine ⟨v, d, n, t - 1, h, st, rfl, tv.m g13.s.tk, ok, nL, g13.s _ _ hd, fun H14 s14 => ⟨_, _, rfl, rfl, _, _, rfl, ?_⟩⟩
          have bl := BestL.nexts (h := h) (st := st) (F := flV fl) (B := B) nL t
          rw [if_pos ht] at bl
          exact kk _ _ ⟨⟨_, rfl, bl⟩, g13.m s14⟩
        · have ht : ¬ 1 ≤ t := fun z => by
            have := gg.2.mpr z
            cases this
          have bl := BestL.nexts (h := h) (st := st) (F := flV fl) (B := B) nL t
          rw [if_neg ht] at bl
          exact kk _ _ ⟨⟨_, rfl, bl⟩, g12.m gg.1⟩
      · obtain ⟨⟨acc, rfl, bl⟩, g13⟩ := pp
        obtain ⟨a, m0, b, ms, bs, rfl, ha, -, -, hb, tb⟩ := Hall.inv tv
        refine ⟨_, rfl, _, _, 1, _, rfl, rfl, SqT.of (g13.s _ _ ha), atI_nat rfl, b, rfl, ⟨_, SqT.of (g13.s _ _ hb)⟩, ?_⟩
        refine for_it (walk_tupL (K := K) tb.lenm) (fun i σ H' => (∃ acc : Int, ∃ o10 o11 o12 o13 o14 o15 o16, σ = [some (.ref a), some (.ref d), some (.ref fd), some (.ref cd), some (.int (many : Int)), some (.ref D), some (.ref D2), some (.str n), some (.int (t : Int)), some (.int acc), o10, o11, o12, o13, o14, o15, o16] ∧
            BestL h st (flV fl) B n t (h.names.map Arc.next ++ (List.range i).flatMap fun i => [Arc.down i, Arc.up i]) acc) ∧ Grow H D2 D L prs B H' fun n => if n ∈ L.take j then t + 1 else t)
          ⟨⟨_, _, _, _, _, _, _, _, rfl, by simpa using bl⟩, g13⟩ (fun i σ H' _ p => SqT.of (p.2.s _ _ hb)) (fun i xv σ H14 H15 hi p hy => ?_) (fun σ H14 p => ?_)
        · obtain ⟨⟨acc, o10, o11, o12, o13, o14, o15, o16, rfl, bl⟩, g14⟩ := p
          obtain ⟨rfl, hx⟩ := hy
          have hib : i < h.bs.length := hi
          obtain ⟨bv, e1, e2⟩ := tb.at (Hall.belt_get hib)
          rw [e1] at hx
          cases hx
          obtain ⟨ba, rfl, hba⟩ := Belt.inv e2
          have hmem := Hall.belt_mem hib
          have fr := ok.fr _ hmem
          have ends := ok.ends _ hmem
          have yd : Arc.down i ∈ h.arcs := List.mem_append_right _ (List.mem_flatMap.mpr ⟨i, List.mem_range.mpr hib, by simp⟩)
          have yu : Arc.up i ∈ h.arcs := List.mem_append_right _ (List.mem_flatMap.mpr ⟨i, List.mem_range.mpr hib, by simp⟩)
          have len_ok : ∀ x, x ∈ h.arcs → h.en x = n → h.gr x ≤ t → t - h.gr x < (if h.st x ∈ L.take j then t + 1 else t) := fun x hx he hg => by
            by_cases c0 : h.gr x = 0
            · obtain ⟨i2, hi2, e3⟩ := top j n x ej hx c0 he
              have : h.st x ∈ L.take j := List.mem_iff_getElem?.mpr ⟨i2, by rw [List.getElem?_take, if_pos hi2]; exact e3⟩
              rw [if_pos this]
              omega
            · split <;> omega
          refine ⟨ba, _, rfl, SqT.of (g14.s _ _ hba), rfl, _, _, rfl, _, _, rfl, _, _, rfl, _, _, rfl, rfl, ?_⟩
          refine tSeq_mid (fun σ' H' => (∃ acc : Int, σ' = [some (.ref a), some (.ref d), some (.ref fd), some (.ref cd), some (.int (many : Int)), some (.ref D), some (.ref D2), some (.str n), some (.int (t : Int)), some (.int acc), some (.str (h.belt i).a), some (.str (h.belt i).b), some (.int ((h.belt i).room : Int)), some (.int ((h.belt i).first : Int)), o14, o15, o16] ∧
            BestL h st (flV fl) B n t ((h.names.map Arc.next ++ (List.range i).flatMap fun i => [Arc.down i, Arc.up i]) ++ [Arc.down i]) acc) ∧ Grow H D2 D L prs B H' fun n => if n ∈ L.take j then t + 1 else t) (fun En kk => ?_) (fun σ16 H16 pp => ?_)
          · refine tIfS_any (fun b H' => Same H15 H' ∧ (b = true ↔ h.en (.down i) = n ∧ h.gr (.down i) ≤ t)) (fun Qb k => ?_) (fun H16 gg => ?_) (fun H16 gg => ?_)
            · refine ⟨_, rfl, _, rfl, rfl, _, rfl, ?_⟩
              rw [dec_str]
              by_cases c : (h.belt i).b = n
              · rw [decide_eq_true c]
                refine iteT ⟨_, rfl, _, rfl, _, _, rfl, rfl, _, rfl, k _ _ ⟨Same.refl _, ?_⟩⟩
                rw [decide_eq_true_eq]
                constructor
                · intro z
                  exact ⟨c, by show (h.belt i).first ≤ t; omega⟩
                · intro z
                  have z2 : (h.belt i).first ≤ t := z.2
                  omega
              · rw [decide_eq_false c]
                exact iteF (k _ _ ⟨Same.refl _, ⟨fun z => (by cases z), fun z => absurd z.1 c⟩⟩)
            · have cc := gg.2.mp rfl
              have g16 := g14.m gg.1
              obtain ⟨as, has⟩ := pex _ ends.1
              have hrow := g16.r _ has
              have lk := len_ok _ yd cc.1 cc.2
              have ep : (t : Int) - ((h.belt i).first : Int) = ((t - (h.belt i).first : Nat) : Int) := by
                have z2 : (h.belt i).first ≤ t := cc.2
                omega
              refine ⟨_, rfl, _, rfl, _, rfl, D, .ref as, rfl, by rw [← prK_get n1 has]; exact DGet.k (k := Sum.inr (h.belt i).a) g16.d, _, rfl, _, rfl, _, _, rfl, rfl, as, _, _, .int (B (h.belt i).a (t - (h.belt i).first)), rfl, congrArg V.int ep, SqL.of hrow, atI_nat (by rw [List.getElem?_map]; exact congrArg (Option.map V.int) (rowI_get (R := B) (n := (h.belt i).a) lk)), ?_⟩
              refine ⟨_, rfl, _, rfl, _, rfl, _, rfl, _, rfl, _, _, rfl, rfl, .ref a, d, (h.belt i).a, t - (h.belt i).first, h, st, by dsimp only; rw [ep]; rfl, tv.m g16.s.tk, ok, ends.1, g16.s _ _ hd, fun H17 s17 => ⟨_, _, rfl, rfl, _, _, rfl, kk _ _ ⟨⟨_, rfl, bl.take cc.1 cc.2⟩, g16.m s17⟩⟩⟩
            · refine kk _ _ ⟨⟨_, rfl, bl.skip fun z => ?_⟩, g14.m gg.1⟩
              have := gg.2.mpr z
              cases this
          · obtain ⟨⟨acc2, rfl, bl2⟩, g16⟩ := pp
            have eseen : (h.names.map Arc.next ++ (List.range (i + 1)).flatMap fun i => [Arc.down i, Arc.up i]) = ((h.names.map Arc.next ++ (List.range i).flatMap fun i => [Arc.down i, Arc.up i]) ++ [Arc.down i]) ++ [Arc.up i] := by
              rw [List.range_succ, List.flatMap_append]
              simp
            have er : ((h.belt i).room : Int) - ((h.belt i).first : Int) = ((h.gr (.up i) : Nat) : Int) := by
              show _ = (((h.belt i).room - (h.belt i).first : Nat) : Int)
              omega
            refine tIfS_any (fun b H' => Same H16 H' ∧ (b = true ↔ h.en (.up i) = n ∧ h.gr (.up i) ≤ t)) (fun Qb k => ?_) (fun H17 gg => ?_) (fun H17 gg => ?_)
            · refine ⟨_, rfl, _, rfl, rfl, _, rfl, ?_⟩
              rw [dec_str]
              by_cases c : (h.belt i).a = n
              · rw [decide_eq_true c]
                refine iteT ⟨_, rfl, _, rfl, _, rfl, _, _, rfl, rfl, _, _, rfl, rfl, _, rfl, k _ _ ⟨Same.refl _, ?_⟩⟩
                rw [decide_eq_true_eq, er]
                constructor
                · intro z
                  exact ⟨c, by omega⟩
                · intro z
                  have z2 := z.2
                  omega
              · rw [decide_eq_false c]
                exact iteF (k _ _ ⟨Same.refl _, ⟨fun z => (by cases z), fun z => absurd z.1 c⟩⟩)
            · have cc := gg.2.mp rfl
              have g17 := g16.m gg.1
              obtain ⟨as, has⟩ := pex _ ends.2
              have hrow := g17.r _ has
              have lk := len_ok _ yu cc.1 cc.2
              have ep : (t : Int) + ((h.belt i).first : Int) - ((h.belt i).room : Int) = ((t - h.gr (.up i) : Nat) : Int) := by
                have := cc.2
                omega
              refine ⟨_, rfl, _, rfl, _, rfl, D, .ref as, rfl, by rw [← prK_get n1 has]; exact DGet.k (k := Sum.inr (h.belt i).b) g17.d, _, rfl, _, rfl, _, _, rfl, rfl, _, rfl, _, _, rfl, rfl, as, _, _, .int (B (h.belt i).b (t - h.gr (.up i))), rfl, congrArg V.int ep, SqL.of hrow, atI_nat (by rw [List.getElem?_map]; exact congrArg (Option.map V.int) (rowI_get (R := B) (n := (h.belt i).b) lk)), _, _, rfl, ⟨_, _, _, _, _, _, _, _, rfl, ?_⟩, g17⟩
              rw [eseen]
              exact bl2.take cc.1 cc.2
            · refine ⟨⟨_, _, _, _, _, _, _, _, rfl, ?_⟩, g16.m gg.1⟩
              rw [eseen]
              refine bl2.skip fun z => ?_
              have := gg.2.mpr z
              cases this
        · obtain ⟨⟨acc, o10, o11, o12, o13, o14, o15, o16, rfl, bl⟩, g14⟩ := p
          have eacc : acc = B n t := Best.uniq (bl.all fun _ => Iff.rfl) (ib n t)
          subst eacc
          -- no cards
          refine ⟨_, rfl, _, rfl, ⟨_, SqL.of (g14.s _ _ hcd)⟩, ?_⟩
          refine for_it (walk_listL (K := K) (xs := []) (n := 0) rfl) (fun _ σ H' => (∃ o14 o15 o16, σ = [some (.ref a), some (.ref d), some (.ref fd), some (.ref cd), some (.int (many : Int)), some (.ref D), some (.ref D2), some (.str n), some (.int (t : Int)), some (.int (B n t)), o10, o11, o12, o13, o14, o15, o16]) ∧ Grow H D2 D L prs B H' fun n => if n ∈ L.take j then t + 1 else t)
            ⟨⟨_, _, _, rfl⟩, g14⟩ (fun _ σ H' _ p => SqL.of (p.2.s _ _ hcd)) (fun i _ _ _ _ hi _ _ => absurd hi (Nat.not_lt_zero _)) (fun σ H15 p => ?_)
          obtain ⟨⟨o14, o15, o16, rfl⟩, g15⟩ := p
          have hrow := g15.r _ hadn
          dsimp only at hrow
          rw [if_neg nnot] at hrow
          refine ⟨_, rfl, _, rfl, D, .ref adn, rfl, by rw [← prK_get n1 hadn]; exact DGet.k (k := Sum.inr n) g15.d, .inl ⟨rfl, _, SqL.of hrow⟩, _, rfl, adn, _, _, rfl, rfl, hrow, smallL (by rw [List.length_map, rowI_len]; omega), ⟨_, _, _, _, _, _, _, _, _, rfl⟩, ?_⟩
          have ga := g15.app nn n1 ea hadn
          rw [if_neg nnot] at ga
          refine ga.len fun e he => ?_
          rw [List.take_succ, ej]
          simp only [Option.toList_some, List.mem_append, List.mem_singleton]
          by_cases c : e.1 = n
          · rw [if_pos c, if_pos (.inr c)]
          · rw [if_neg c]
            by_cases c2 : e.1 ∈ L.take j
            · rw [if_pos c2, if_pos (.inl c2)]
            · rw [if_neg c2, if_neg (fun z => z.elim c2 c)]
    · obtain ⟨⟨o7, o9, o10, o11, o12, o13, o14, o15, o16, rfl⟩, g10⟩ := p
      refine ⟨⟨_, _, _, _, _, _, _, _, _, _, rfl⟩, g10.len fun e he => ?_⟩
      have : e.1 ∈ L.take h.names.length := by
        rw [← Llen, List.take_length]
        exact perm.mem_iff.mpr (pin e he)
      rw [if_pos this]
  · obtain ⟨⟨o7, o8, o9, o10, o11, o12, o13, o14, o15, o16, rfl⟩, g8⟩ := p
    -- the runs as tuples
    refine ⟨D, _, g8.d, trivial, fun od => ⟨_, rfl, D, od, rfl, .inl ⟨_, upd_same, fun D9 hD9 => ?_⟩⟩⟩
    have pl : (prK prs).length = h.names.length := by rw [prK, List.length_map, ← ek, List.length_map]
    have wk2 : Walk (Itk D od (prK prs)) h.names.length (fun H => H D = some (.frz od (.dK (prK prs)))) (fun i H x H' => H' = H ∧ ∃ k v, (prK prs)[i]? = some (k, v) ∧ x = kV k) := by
      have := walk_keys (d := D) (o := od) (kvs := prK prs)
      rwa [pl] at this
    have eG := upd_same (H := H8) (a := D) (o := .frz od (.dK (prK prs)))
    have s8 : ∀ e ∈ prs, (upd H8 D (.frz od (.dK (prK prs)))) e.2 = some (.lst ((rowI B e.1 many).map .int)) := fun e he => by
      rw [upd_ne (ne_of (g8.r e he) g8.d (by intro z; cases z))]
      exact g8.r e he
    refine lc_lst h.names wk2 hD9 (fun H s => s _ _ eG) (fun _ => true) (fun n => .tuple [.str n, rowD B many n]) (by omega) (fun i n x H10 H' hi s hy N R _ r' => ?_) (fun H10 ys s10 e10 t10 => ?_)
    · obtain ⟨rfl, k, vv, hk, rfl⟩ := hy
      have ekn : ∃ e, prs[i]? = some e ∧ e.1 = n := by
        rw [← ek, List.getElem?_map] at hi
        obtain ⟨e, e1, e2⟩ := Option.map_eq_some_iff.mp hi
        exact ⟨e, e1, e2⟩
      obtain ⟨e, e1, rfl⟩ := ekn
      rw [prK, List.getElem?_map, e1] at hk
      cases hk
      have he := List.mem_of_getElem? e1
      have hr := s _ _ (s8 e he)
      refine ⟨rfl, yesT ⟨_, rfl, _, rfl, _, rfl, D, _, rfl, .inl ⟨_, Sum.inr e.1, .inr ⟨od, s _ _ eG⟩, rfl, (prK_get n1 he).symm⟩, e.2, _, rfl, SqL.of hr, fun l hl => ⟨by show 2 ≤ sizeLine; decide, fun l2 hl2 => ?_⟩⟩⟩
      have k1 : Same H' (upd H' l (.tup ((rowI B e.1 many).map V.int))) := Same.new hl
      have k2 := Same.new hl2 (o := .tup [.str e.1, .ref l])
      exact r' _ _ (k1.trans k2) rfl (.tup upd_same (.cons (.str _) (.cons (.tup (k2 _ _ upd_same) (TvAll.ints _)) .nil)))
    · rw [flt_true] at t10
      have eG2 := s10 _ _ eG
      have sU := unlock_same (od := od) g8.d s10
      have D9D : D9 ≠ D := fun z => by subst z; rw [hD9] at eG; cases eG
      have tkU2 : TK H10 (upd H10 D (.dK (prK prs))) := lock_tk eG2 (by intro xs z; cases z)
      have e10' : (upd H10 D (.dK (prK prs))) D9 = some (.lst ys) := by rw [upd_ne D9D]; exact e10
      have t10' := t10.m tkU2
      have sHU := g8.s.trans sU
      refine ⟨eG2, ?_⟩
      generalize upd H10 D (.dK (prK prs)) = H11 at e10' t10' sHU ⊢
      -- pairs
      have aux : ∀ {ns : List Str} {ys : List V}, TvAll H11 ys (ns.map fun n => .tuple [.str n, rowD B many n]) → ∃ (ps : List Addr) (kvs : List (Key × V)), ys = ps.map V.ref ∧ Paired (fun p kv => SqT K H11 p [kV kv.1, kv.2]) ps kvs ∧ Paired (fun n (q : Key × V) => q.1 = Sum.inr n ∧ Tv H11 q.2 (rowD B many n)) ns kvs := by
        intro ns
        induction ns with
        | nil => intro ys h; cases h; exact ⟨[], [], rfl, .nil, .nil⟩
        | cons n ns ih =>
          intro ys h
          cases h with
          | cons h1 h2 =>
            obtain ⟨ps, kvs, rfl, h3, h4⟩ := ih h2
            obtain ⟨p, xs, rfl, hp, tx⟩ := Tv.tup_inv h1
            cases tx with
            | cons tx1 tx =>
              cases tx with
              | cons tx2 tx =>
                cases tx
                cases tx1
                exact ⟨p :: ps, (Sum.inr n, _) :: kvs, rfl, .cons (SqT.of hp) h3, .cons ⟨rfl, tx2⟩ h4⟩
      obtain ⟨ps, kvs, rfl, pp1, pp2⟩ := aux t10'
      have emk2 : mergeK [] kvs = kvs := by
        rw [mergeK_fresh _ _ ?_, List.nil_append]
        rw [List.nil_append, RunAt.keys pp2]
        exact nodup_inr ok.nd
      refine ⟨D9, ps, kvs, rfl, SqL.of e10', pp1, fun pz hpz => ?_⟩
      rw [emk2]
      have sz : Same H11 (upd H11 pz (.dK kvs)) := Same.new hpz
      exact q pz _ (sHU.trans sz) (sHU.free hpz) ⟨kvs, upd_same, Paired.mapP pp2 fun n q hq => ⟨hq.1, hq.2.m sz.tk⟩⟩
end
end K41
/-! the law's own look at runs -/
namespace K41
open PySem PySem.Spec PyProof.Rows L2
open C8 (Cal pe_c)
section
variable {P : Program} {w : World} {K : PySem.W.Frag} {mg : Str → Option Value} {base : Heap}
def sp__law_is_int : Sp := fun vs H Q _ => ∃ (i : Int), vs = [.int i] ∧ Q (.bl true) H
theorem c__law_is_int (T : Txt K mg) : Cal P w K mg base 1 "_law_is_int" (sp__law_is_int) [] := by
  refine cal_of T.d__law_is_int sc__law_is_int (fun vs H Q E h => by first | (obtain ⟨_, rfl, _⟩ := h; rfl) | (obtain ⟨_, _, rfl, _⟩ := h; rfl) | (obtain ⟨_, _, _, rfl, _⟩ := h; rfl) | (obtain ⟨_, _, _, _, rfl, _⟩ := h; rfl) | (obtain ⟨_, _, _, _, _, rfl, _⟩ := h; rfl) | (obtain ⟨_, _, _, _, _, _, rfl, _⟩ := h; rfl) | (obtain ⟨_, _, _, _, _, _, _, rfl, _⟩ := h; rfl) | (obtain ⟨_, _, _, _, _, _, _, _, rfl, _⟩ := h; rfl) | (obtain ⟨_, _, _, _, _, _, _, _, _, rfl, _⟩ := h; rfl) | (obtain ⟨_, _, _, _, _, _, _, _, _, _, rfl, _⟩ := h; rfl) | (obtain ⟨_, _, _, _, _, _, _, _, _, _, _, rfl, _⟩ := h; rfl) | (obtain ⟨_, _, _, _, _, _, _, _, _, _, _, _, rfl, _⟩ := h; rfl)) bi__law_is_int (fun f cdv A outer s H vs Q E hr hsp => ?_)
  have hu := hu_of hr
  have hu64 := hr.units
  have hu2 := hu2_of hr
  have hu80 := hu80_of hr
  have nd := sc__law_is_int.nd
  refine ⟨_, (pss_one (ps_ret (pe_and (pe_callB (call_isiK (K := K) rfl) (by rfl) T.b_isinstance (by decide +kernel) (pa_cons (pv 0) (pa_cons (pe_ty (n := "int") (by rfl) T.b_int (by decide +kernel)) pa_nil))) (pe_one (pe_not (pe_callB (call_isiK (K := K) rfl) (by rfl) T.b_isinstance (by decide +kernel) (pa_cons (pv 0) (pa_cons (pe_ty (n := "bool") (by rfl) T.b_bool (by decide +kernel)) pa_nil)))))))), ?_⟩
  obtain ⟨i, rfl, q⟩ := hsp
  exact ⟨_, rfl, _, _, _, _, true, rfl, .ty "int", .base (.int i), kit_ty (by decide +kernel), _, rfl, iteT ⟨_, rfl, _, _, _, _, false, rfl, .ty "bool", .base (.int i), kit_ty (by decide +kernel), _, rfl, q⟩⟩
def sp__law_counts : Sp := fun vs H Q _ => ∃ (i : Int), vs = [.int i] ∧ 0 ≤ i ∧ Q (.bl true) H
theorem c__law_counts (T : Txt K mg) : Cal P w K mg base 2 "_law_counts" (sp__law_counts) [] := by
  refine cal_of T.d__law_counts sc__law_counts (fun vs H Q E h => by first | (obtain ⟨_, rfl, _⟩ := h; rfl) | (obtain ⟨_, _, rfl, _⟩ := h; rfl) | (obtain ⟨_, _, _, rfl, _⟩ := h; rfl) | (obtain ⟨_, _, _, _, rfl, _⟩ := h; rfl) | (obtain ⟨_, _, _, _, _, rfl, _⟩ := h; rfl) | (obtain ⟨_, _, _, _, _, _, rfl, _⟩ := h; rfl) | (obtain ⟨_, _, _, _, _, _, _, rfl, _⟩ := h; rfl) | (obtain ⟨_, _, _, _, _, _, _, _, rfl, _⟩ := h; rfl) | (obtain ⟨_, _, _, _, _, _, _, _, _, rfl, _⟩ := h; rfl) | (obtain ⟨_, _, _, _, _, _, _, _, _, _, rfl, _⟩ := h; rfl) | (obtain ⟨_, _, _, _, _, _, _, _, _, _, _, rfl, _⟩ := h; rfl) | (obtain ⟨_, _, _, _, _, _, _, _, _, _, _, _, rfl, _⟩ := h; rfl)) bi__law_counts (fun f cdv A outer s H vs Q E hr hsp => ?_)
  have hu := hu_of hr
  have hu64 := hr.units
  have hu2 := hu2_of hr
  have hu80 := hu80_of hr
  have nd := sc__law_counts.nd
  refine ⟨_, (pss_one (ps_ret (pe_and (pe_c (c__law_is_int T) hr (by decide) rfl (pa_cons (pv 0) pa_nil)) (pe_one (pe_cmpR op_ge (pv 0) pe_int (nomark _)))))), ?_⟩
  obtain ⟨i, rfl, h0, q⟩ := hsp
  refine ⟨_, rfl, i, rfl, _, rfl, iteT ⟨_, rfl, _, _, rfl, rfl, ?_⟩⟩
  show Q (.bl (decide (0 ≤ i))) H
  rw [decide_eq_true h0]
  exact q
def sp__law_runs_right : Sp := fun vs H Q _ => ∃ (v : V) (d rd : Addr) (many : Nat) (h : Hall) (st : StT) (R : Str → Nat → Int), vs = [v, .ref d, .ref rd, .int (many : Int)] ∧ Tv H v h.py ∧ h.Ok ∧ H d = some (.dT (stK st)) ∧
  RunAt H rd h.names many R ∧ many ≤ 1000 ∧ KeptF h st R many ∧ ∀ H', Same H H' → Q (.bl true) H'
theorem c__law_runs_right (T : Txt K mg) : Cal P w K mg base 3 "_law_runs_right" (sp__law_runs_right) [] := by
  refine cal_of T.d__law_runs_right sc__law_runs_right (fun vs H Q E h => by first | (obtain ⟨_, rfl, _⟩ := h; rfl) | (obtain ⟨_, _, rfl, _⟩ := h; rfl) | (obtain ⟨_, _, _, rfl, _⟩ := h; rfl) | (obtain ⟨_, _, _, _, rfl, _⟩ := h; rfl) | (obtain ⟨_, _, _, _, _, rfl, _⟩ := h; rfl) | (obtain ⟨_, _, _, _, _, _, rfl, _⟩ := h; rfl) | (obtain ⟨_, _, _, _, _, _, _, rfl, _⟩ := h; rfl) | (obtain ⟨_, _, _, _, _, _, _, _, rfl, _⟩ := h; rfl) | (obtain ⟨_, _, _, _, _, _, _, _, _, rfl, _⟩ := h; rfl) | (obtain ⟨_, _, _, _, _, _, _, _, _, _, rfl, _⟩ := h; rfl) | (obtain ⟨_, _, _, _, _, _, _, _, _, _, _, rfl, _⟩ := h; rfl) | (obtain ⟨_, _, _, _, _, _, _, _, _, _, _, _, rfl, _⟩ := h; rfl)) bi__law_runs_right (fun f cdv A outer s H vs Q E hr hsp => ?_)
  have hu := hu_of hr
  have hu64 := hr.units
  have hu2 := hu2_of hr
  have hu80 := hu80_of hr
  have nd := sc__law_runs_right.nd
  refine ⟨_, (pss_cons (ps_for PassesOwn.never rfl (pil (K := K) rfl (pe_c (c__law_names T) hr (by decide) rfl (pa_cons (pv 0) pa_nil))) (pg_name (i := 4) nd rfl (by first | exact Or.inl rfl | exact Or.inr rfl)) (pss_one (ps_for PassesOwn.never rfl (pi_range1 (by rfl) T.b_range (pa_cons (pv 3) pa_nil)) (pg_name (i := 5) nd rfl (by first | exact Or.inl rfl | exact Or.inr rfl)) (pss_one (ps_if (PW.pt (pw_and (pt_cmpR op_gt (pv 5) pe_int (nomark _)) (pw_and1 (pt_cmpR op_lt (pe_ix (ixt (K := K) rfl) (pe_dget hu (pv 2) (pv 4) (fun _ _ => rfl)) (pv 5) (fun _ _ => rfl)) (pe_op op_add (pe_ix (ixt (K := K) rfl) (pe_dget hu (pv 2) (pv 4) (fun _ _ => rfl)) (pe_op op_sub (pv 5) pe_int) (fun _ _ => rfl)) (pe_c (c__law_work T) hr (by decide) rfl (pa_cons (pv 0) (pa_cons (pv 1) (pa_cons (pv 4) (pa_cons (pe_op op_sub (pv 5) pe_int) pa_nil)))))) (nomark _))))) (pss_one (ps_ret pe_bl)) pss_nil)))))
    (pss_cons (ps_for PassesOwn.never rfl (pit (K := K) rfl (pe_ix (ixt (K := K) rfl) (pv 0) pe_int (fun _ _ => rfl))) (pgt (K := K) (n := 4) rfl (pgs_cons (pg_name (i := 6) nd rfl (by first | exact Or.inl rfl | exact Or.inr rfl)) (pgs_cons (pg_name (i := 7) nd rfl (by first | exact Or.inl rfl | exact Or.inr rfl)) (pgs_cons (pg_name (i := 8) nd rfl (by first | exact Or.inl rfl | exact Or.inr rfl)) (pgs_cons (pg_name (i := 9) nd rfl (by first | exact Or.inl rfl | exact Or.inr rfl)) pgs_nil))))) (pss_one (ps_for PassesOwn.never rfl (pi_range1 (by rfl) T.b_range (pa_cons (pv 3) pa_nil)) (pg_name (i := 5) nd rfl (by first | exact Or.inl rfl | exact Or.inr rfl)) (pss_cons (ps_if (PW.pt (pw_and (pt_cmpR op_ge (pv 5) (pv 9) (nomark _)) (pw_and1 (pt_cmpR op_lt (pe_ix (ixt (K := K) rfl) (pe_dget hu (pv 2) (pv 7) (fun _ _ => rfl)) (pv 5) (fun _ _ => rfl)) (pe_op op_add (pe_ix (ixt (K := K) rfl) (pe_dget hu (pv 2) (pv 6) (fun _ _ => rfl)) (pe_op op_sub (pv 5) (pv 9)) (fun _ _ => rfl)) (pe_c (c__law_work T) hr (by decide) rfl (pa_cons (pv 0) (pa_cons (pv 1) (pa_cons (pv 6) (pa_cons (pe_op op_sub (pv 5) (pv 9)) pa_nil)))))) (nomark _))))) (pss_one (ps_ret pe_bl)) pss_nil)
    (pss_one (ps_if (PW.pt (pw_and (pt_cmpR op_ge (pv 5) (pe_op op_sub (pv 8) (pv 9)) (nomark _)) (pw_and1 (pt_cmpR op_lt (pe_ix (ixt (K := K) rfl) (pe_dget hu (pv 2) (pv 6) (fun _ _ => rfl)) (pv 5) (fun _ _ => rfl)) (pe_ix (ixt (K := K) rfl) (pe_dget hu (pv 2) (pv 7) (fun _ _ => rfl)) (pe_op op_sub (pe_op op_add (pv 5) (pv 9)) (pv 8)) (fun _ _ => rfl)) (nomark _))))) (pss_one (ps_ret pe_bl)) pss_nil))))))
    (pss_one (ps_ret pe_bl)))), ?_⟩
  obtain ⟨v, d, rd, many, h, st, R, rfl, tv, ok, hd, ra, hmany, kf, q⟩ := hsp
  obtain ⟨kvs, hrd, pk⟩ := ra
  have n4 := ok.n4
  have et : ((many : Int)).toNat = many := rfl
  refine ⟨_, rfl, _, h, rfl, tv, by omega, fun pN H1 s1 hpN eN => ⟨_, rfl, ⟨_, SqL.of eN⟩, ?_⟩⟩
  refine for_it (walk_listL (K := K) (xs := h.names.map V.str) (n := h.names.length) (by rw [List.length_map])) (fun i σ H' => (∃ o4 o5 o6 o7 o8 o9, σ = [some v, some (.ref d), some (.ref rd), some (.int (many : Int)), o4, o5, o6, o7, o8, o9]) ∧ Same H H' ∧ H' pN = some (.lst (h.names.map .str)))
    ⟨⟨_, _, _, _, _, _, rfl⟩, s1, eN⟩ (fun i σ H' _ p => SqL.of p.2.2) (fun i x σ H2 H3 hi p hy => ?_) (fun σ H2 p => ?_)
  · obtain ⟨⟨o4, o5, o6, o7, o8, o9, rfl⟩, s2, e2⟩ := p
    obtain ⟨rfl, hx⟩ := hy
    have en : h.names[i]? = some h.names[i] := List.getElem?_eq_getElem hi
    rw [List.getElem?_map, en] at hx
    cases hx
    have hn := List.getElem_mem hi
    generalize h.names[i] = n at hn ⊢
    obtain ⟨ae, f1, f2⟩ := rows_get pk hn
    refine ⟨_, rfl, _, rfl, by omega, by omega, ?_⟩
    rw [et]
    refine for_it (walk_range (lo := 0) (n := many)) (fun j σ H' => (∃ o5 o6 o7 o8 o9, σ = [some v, some (.ref d), some (.ref rd), some (.int (many : Int)), some (.str n), o5, o6, o7, o8, o9]) ∧ Same H H' ∧ H' pN = some (.lst (h.names.map .str)))
      ⟨⟨_, _, _, _, _, rfl⟩, s2, e2⟩ (fun _ _ _ _ _ => trivial) (fun j x σ H4 H5 hj p hy => ?_) (fun σ H4 p => ?_)
    · obtain ⟨⟨o5, o6, o7, o8, o9, rfl⟩, s4, e4⟩ := p
      obtain ⟨rfl, rfl⟩ := hy
      have e0 : V.int (0 + (j : Int)) = V.int (j : Int) := by rw [Int.zero_add]
      dsimp only
      rw [e0]
      refine tIfS_any (fun b H' => Same H5 H' ∧ b = false) (fun Qb k => ?_) (fun H6 gg => by cases gg.2) (fun H6 gg => ⟨⟨_, _, _, _, _, rfl⟩, s4.trans gg.1, gg.1 _ _ e4⟩)
      refine ⟨_, rfl, _, _, rfl, rfl, _, rfl, ?_⟩
      by_cases c : 1 ≤ j
      · have c1 : decide ((0 : Int) < (j : Int)) = true := decide_eq_true (by omega)
        rw [c1]
        have ej1 : (j : Int) - 1 = ((j - 1 : Nat) : Int) := by omega
        refine iteT ⟨_, rfl, _, rfl, rd, .ref ae, rfl, by rw [← f1]; exact DGet.k (k := Sum.inr n) (s4 _ _ hrd), _, rfl, ae, _, _, .int (R n j), rfl, rfl, SqT.of (s4 _ _ f2), atI_nat (by rw [List.getElem?_map, rowI_get hj]; rfl), _, rfl, _, rfl, rd, .ref ae, rfl, by rw [← f1]; exact DGet.k (k := Sum.inr n) (s4 _ _ hrd),
          _, rfl, _, _, rfl, rfl, ae, _, _, .int (R n (j - 1)), rfl, congrArg V.int ej1, SqT.of (s4 _ _ f2), atI_nat (by rw [List.getElem?_map, rowI_get (by omega)]; rfl), ?_⟩
        refine ⟨_, rfl, _, rfl, _, rfl, _, rfl, _, _, rfl, rfl, v, d, n, j - 1, h, st, by dsimp only; rw [ej1]; rfl, tv.m s4.tk, ok, hn, s4 _ _ hd, fun H6 s6 => ⟨_, _, rfl, rfl, _, _, rfl, rfl, _, rfl, ?_⟩⟩
        have hk := kf (.next n) (List.mem_append_left _ (List.mem_map.mpr ⟨n, hn, rfl⟩)) j hj c
        have hk2 : R n (j - 1) + h.W st n (j - 1) ≤ R n j := hk
        have : decide (R n j < R n (j - 1) + h.W st n (j - 1)) = false := decide_eq_false (by omega)
        rw [this]
        exact k _ _ ⟨s6, rfl⟩
      · have c1 : decide ((0 : Int) < (j : Int)) = false := decide_eq_false (by omega)
        rw [c1]
        exact iteF (k _ _ ⟨Same.refl _, rfl⟩)
    · obtain ⟨⟨o5, o6, o7, o8, o9, rfl⟩, s4, e4⟩ := p
      exact ⟨⟨_, _, _, _, _, _, rfl⟩, s4, e4⟩
  · obtain ⟨⟨o4, o5, o6, o7, o8, o9, rfl⟩, s2, -⟩ := p
    obtain ⟨a, m0, b, ms, bs, rfl, ha, -, -, hb, tb⟩ := Hall.inv tv
    refine ⟨_, rfl, _, _, 1, _, rfl, rfl, SqT.of (s2 _ _ ha), atI_nat rfl, b, rfl, ⟨_, SqT.of (s2 _ _ hb)⟩, ?_⟩
    refine for_it (walk_tupL (K := K) tb.lenm) (fun i σ H' => (∃ o4 o5 o6 o7 o8 o9, σ = [some (.ref a), some (.ref d), some (.ref rd), some (.int (many : Int)), o4, o5, o6, o7, o8, o9]) ∧ Same H H')
      ⟨⟨_, _, _, _, _, _, rfl⟩, s2⟩ (fun i σ H' _ p => SqT.of (p.2 _ _ hb)) (fun i xv σ H3 H4 hi p hy => ?_) (fun σ H3 p => ?_)
    · obtain ⟨⟨o4, o5, o6, o7, o8, o9, rfl⟩, s3⟩ := p
      obtain ⟨rfl, hx⟩ := hy
      have hib : i < h.bs.length := hi
      obtain ⟨bv, e1, e2⟩ := tb.at (Hall.belt_get hib)
      rw [e1] at hx
      cases hx
      obtain ⟨ba, rfl, hba⟩ := Belt.inv e2
      have hmem := Hall.belt_mem hib
      have fr := ok.fr _ hmem
      have ends := ok.ends _ hmem
      have yd : Arc.down i ∈ h.arcs := List.mem_append_right _ (List.mem_flatMap.mpr ⟨i, List.mem_range.mpr hib, by simp⟩)
      have yu : Arc.up i ∈ h.arcs := List.mem_append_right _ (List.mem_flatMap.mpr ⟨i, List.mem_range.mpr hib, by simp⟩)
      obtain ⟨aa, fa, ga⟩ := rows_get pk ends.1
      obtain ⟨ab, fb, gb⟩ := rows_get pk ends.2
      refine ⟨ba, _, rfl, SqT.of (s3 _ _ hba), rfl, _, _, rfl, _, _, rfl, _, _, rfl, _, _, rfl, rfl, ?_⟩
      refine ⟨_, rfl, _, rfl, by omega, by omega, ?_⟩
      rw [et]
      refine for_it (walk_range (lo := 0) (n := many)) (fun j σ H' => (∃ o4 o5, σ = [some (.ref a), some (.ref d), some (.ref rd), some (.int (many : Int)), o4, o5, some (.str (h.belt i).a), some (.str (h.belt i).b), some (.int ((h.belt i).room : Int)), some (.int ((h.belt i).first : Int))]) ∧ Same H H')
        ⟨⟨_, _, rfl⟩, s3⟩ (fun _ _ _ _ _ => trivial) (fun j x σ H5 H6 hj p hy => ?_) (fun σ H5 p => ?_)
      · obtain ⟨⟨o4, o5, rfl⟩, s5⟩ := p
        obtain ⟨rfl, rfl⟩ := hy
        have e0 : V.int (0 + (j : Int)) = V.int (j : Int) := by rw [Int.zero_add]
        dsimp only
        rw [e0]
        refine tSeq_mid (fun σ' H' => σ' = [some (.ref a), some (.ref d), some (.ref rd), some (.int (many : Int)), o4, some (.int (j : Int)), some (.str (h.belt i).a), some (.str (h.belt i).b), some (.int ((h.belt i).room : Int)), some (.int ((h.belt i).first : Int))] ∧ Same H H') (fun En kk => ?_) (fun σ7 H7 pp => ?_)
        · refine tIfS_any (fun b H' => Same H6 H' ∧ b = false) (fun Qb k => ?_) (fun H7 gg => by cases gg.2) (fun H7 gg => kk _ _ ⟨rfl, s5.trans gg.1⟩)
          refine ⟨_, rfl, _, rfl, _, _, rfl, rfl, _, rfl, ?_⟩
          by_cases c : (h.belt i).first ≤ j
          · have c1 : decide (((h.belt i).first : Int) ≤ (j : Int)) = true := decide_eq_true (by omega)
            rw [c1]
            have ej1 : (j : Int) - ((h.belt i).first : Int) = ((j - (h.belt i).first : Nat) : Int) := by omega
            refine iteT ⟨_, rfl, _, rfl, rd, .ref ab, rfl, by rw [← fb]; exact DGet.k (k := Sum.inr (h.belt i).b) (s5 _ _ hrd), _, rfl, ab, _, _, .int (R (h.belt i).b j), rfl, rfl, SqT.of (s5 _ _ gb), atI_nat (by rw [List.getElem?_map, rowI_get hj]; rfl), _, rfl, _, rfl, rd, .ref aa, rfl, by rw [← fa]; exact DGet.k (k := Sum.inr (h.belt i).a) (s5 _ _ hrd),
              _, rfl, _, rfl, _, _, rfl, rfl, aa, _, _, .int (R (h.belt i).a (j - (h.belt i).first)), rfl, congrArg V.int ej1, SqT.of (s5 _ _ ga), atI_nat (by rw [List.getElem?_map, rowI_get (by omega)]; rfl), ?_⟩
            refine ⟨_, rfl, _, rfl, _, rfl, _, rfl, _, rfl, _, _, rfl, rfl, .ref a, d, (h.belt i).a, j - (h.belt i).first, h, st, by dsimp only; rw [ej1]; rfl, tv.m s5.tk, ok, ends.1, s5 _ _ hd, fun H8 s8 => ⟨_, _, rfl, rfl, _, _, rfl, rfl, _, rfl, ?_⟩⟩
            have hk := kf _ yd j hj c
            have hk2 : R (h.belt i).a (j - (h.belt i).first) + h.W st (h.belt i).a (j - (h.belt i).first) ≤ R (h.belt i).b j := hk
            have : decide (R (h.belt i).b j < R (h.belt i).a (j - (h.belt i).first) + h.W st (h.belt i).a (j - (h.belt i).first)) = false := decide_eq_false (by omega)
            rw [this]
            exact k _ _ ⟨s8, rfl⟩
          · have c1 : decide (((h.belt i).first : Int) ≤ (j : Int)) = false := decide_eq_false (by omega)
            rw [c1]
            exact iteF (k _ _ ⟨Same.refl _, rfl⟩)
        · obtain ⟨rfl, s7⟩ := pp
          have er : ((h.belt i).room : Int) - ((h.belt i).first : Int) = ((h.gr (.up i) : Nat) : Int) := by
            show _ = (((h.belt i).room - (h.belt i).first : Nat) : Int)
            omega
          refine tIfS_any (fun b H' => Same H7 H' ∧ b = false) (fun Qb k => ?_) (fun H8 gg => by cases gg.2) (fun H8 gg => ⟨⟨_, _, rfl⟩, s7.trans gg.1⟩)
          refine ⟨_, rfl, _, rfl, _, rfl, _, _, rfl, rfl, _, _, rfl, rfl, _, rfl, ?_⟩
          rw [er]
          by_cases c : h.gr (.up i) ≤ j
          · have c1 : decide (((h.gr (.up i) : Nat) : Int) ≤ (j : Int)) = true := decide_eq_true (by omega)
            rw [c1]
            have ej1 : (j : Int) + ((h.belt i).first : Int) - ((h.belt i).room : Int) = ((j - h.gr (.up i) : Nat) : Int) := by omega
            refine iteT ⟨_, rfl, _, rfl, rd, .ref aa, rfl, by rw [← fa]; exact DGet.k (k := Sum.inr (h.belt i).a) (s7 _ _ hrd), _, rfl, aa, _, _, .int (R (h.belt i).a j), rfl, rfl, SqT.of (s7 _ _ ga), atI_nat (by rw [List.getElem?_map, rowI_get hj]; rfl), _, rfl, _, rfl, rd, .ref ab, rfl, by rw [← fb]; exact DGet.k (k := Sum.inr (h.belt i).b) (s7 _ _ hrd),
              _, rfl, _, rfl, _, _, rfl, rfl, _, rfl, _, _, rfl, rfl, ab, _, _, .int (R (h.belt i).b (j - h.gr (.up i))), rfl, congrArg V.int ej1, SqT.of (s7 _ _ gb), atI_nat (by rw [List.getElem?_map, rowI_get (by omega)]; rfl), _, _, rfl, rfl, _, rfl, ?_⟩
            have hk := kf _ yu j hj c
            have hk2 : R (h.belt i).b (j - h.gr (.up i)) ≤ R (h.belt i).a j := hk
            have : decide (R (h.belt i).a j < R (h.belt i).b (j - h.gr (.up i))) = false := decide_eq_false (by omega)
            rw [this]
            exact k _ _ ⟨Same.refl _, rfl⟩
          · have c1 : decide (((h.gr (.up i) : Nat) : Int) ≤ (j : Int)) = false := decide_eq_false (by omega)
            rw [c1]
            exact iteF (k _ _ ⟨Same.refl _, rfl⟩)
      · obtain ⟨⟨o4, o5, rfl⟩, s5⟩ := p
        exact ⟨⟨_, _, _, _, _, _, rfl⟩, s5⟩
    · obtain ⟨⟨o4, o5, o6, o7, o8, o9, rfl⟩, s3⟩ := p
      exact q _ s3
def sp__law_is_run : Sp := fun vs H Q _ => ∃ (v : V) (d rd : Addr) (many : Nat) (h : Hall) (st : StT) (R : Str → Nat → Int), vs = [v, .ref d, .ref rd] ∧ Tv H v h.py ∧ h.Ok ∧ H d = some (.dT (stK st)) ∧
  RunAt H rd h.names many R ∧ many ≤ 1000 ∧ KeptF h st R many ∧ (∀ n ∈ h.names, ∀ p, p < many → 0 ≤ R n p) ∧ ∀ H', Same H H' → Q (.bl true) H'
theorem c__law_is_run (T : Txt K mg) : Cal P w K mg base 4 "_law_is_run" (sp__law_is_run) [] := by
  refine cal_of T.d__law_is_run sc__law_is_run (fun vs H Q E h => by first | (obtain ⟨_, rfl, _⟩ := h; rfl) | (obtain ⟨_, _, rfl, _⟩ := h; rfl) | (obtain ⟨_, _, _, rfl, _⟩ := h; rfl) | (obtain ⟨_, _, _, _, rfl, _⟩ := h; rfl) | (obtain ⟨_, _, _, _, _, rfl, _⟩ := h; rfl) | (obtain ⟨_, _, _, _, _, _, rfl, _⟩ := h; rfl) | (obtain ⟨_, _, _, _, _, _, _, rfl, _⟩ := h; rfl) | (obtain ⟨_, _, _, _, _, _, _, _, rfl, _⟩ := h; rfl) | (obtain ⟨_, _, _, _, _, _, _, _, _, rfl, _⟩ := h; rfl) | (obtain ⟨_, _, _, _, _, _, _, _, _, _, rfl, _⟩ := h; rfl) | (obtain ⟨_, _, _, _, _, _, _, _, _, _, _, rfl, _⟩ := h; rfl) | (obtain ⟨_, _, _, _, _, _, _, _, _, _, _, _, rfl, _⟩ := h; rfl)) bi__law_is_run (fun f cdv A outer s H vs Q E hr hsp => ?_)
  have hu := hu_of hr
  have hu64 := hr.units
  have hu2 := hu2_of hr
  have hu80 := hu80_of hr
  have nd := sc__law_is_run.nd
  refine ⟨_, (pss_cons (ps_if (PW.pt (pw_or (pt_not (pt_val (pe_callB (call_isiK (K := K) rfl) (by rfl) T.b_isinstance (by decide +kernel) (pa_cons (pv 2) (pa_cons (pe_ty (n := "dict") (by rfl) T.b_dict (by decide +kernel)) pa_nil))))) (pw_or (pt_cmpR op_ne (pe_callB call_lenD (by rfl) T.b_len (by decide +kernel) (pa_cons (pv 2) pa_nil)) (pe_callB (cr_len (K := K) rfl) (by rfl) T.b_len (by decide +kernel) (pa_cons (pe_ix (ixt (K := K) rfl) (pv 0) pe_int (fun _ _ => rfl)) pa_nil)) (nomark _)) (pw_or1 (pt_cmpR (op_neLd (K := K) rfl hu64) (pe_lc (own := [("_law_name", 3)]) rfl nd (pil (K := K) rfl (pe_c (c__law_names T) hr (by decide) rfl (pa_cons (pv 0) pa_nil))) (blkOk_by (own := [("_law_name", 3)]) (N := n__law_is_run) (sc := defScope s__law_is_run) (by decide +kernel)) (fun _ _ _ _ _ => (pg_name (i := 3) nd rfl (by first | exact Or.inl rfl | exact Or.inr rfl))) (fun _ _ _ _ _ => (pts_one (pt_cmp (pc_dnotin hu (pv 3) (pv 2))))) (fun _ _ _ _ _ => (pv 3))) (pe_lst pa_nil) (nomark _)))))) (pss_one (ps_ret pe_bl)) pss_nil)
    (pss_cons (ps_setLc (i := 4) (own := [("_law_name", 3)]) rfl nd rfl rfl (sw_true rfl rfl rfl (by decide +kernel)) (pil (K := K) rfl (pe_c (c__law_names T) hr (by decide) rfl (pa_cons (pv 0) pa_nil))) (blkOk_by (own := [("_law_name", 3)]) (N := n__law_is_run) (sc := defScope s__law_is_run) (by decide +kernel)) (fun _ _ _ _ _ => (pg_name (i := 3) nd rfl (by first | exact Or.inl rfl | exact Or.inr rfl))) (fun _ _ _ _ _ => pts_nil) (fun _ _ _ _ _ => (pe_dget hu (pv 2) (pv 3) (fun _ _ => rfl))))
    (pss_cons (ps_if (pt_cmpR (op_neLd (K := K) rfl hu64) (pe_lc (own := [("_law_row", 5)]) rfl nd (pil (K := K) rfl (pv 4)) (blkOk_by (own := [("_law_row", 5)]) (N := n__law_is_run) (sc := defScope s__law_is_run) (by decide +kernel)) (fun _ _ _ _ _ => (pg_name (i := 5) nd rfl (by first | exact Or.inl rfl | exact Or.inr rfl))) (fun _ _ _ _ _ => (pts_one (PW.pt (pw_or (pt_not (pt_val (pe_callB (call_isiK (K := K) rfl) (by rfl) T.b_isinstance (by decide +kernel) (pa_cons (pv 5) (pa_cons (pe_ty (n := "tuple") (by rfl) T.b_tuple (by decide +kernel)) pa_nil))))) (pw_or1 (pt_cmpR (op_neLd (K := K) rfl hu64) (pe_lc (own := [("_law_one", 6)]) rfl nd (pit (K := K) rfl (pv 5)) (blkOk_by (own := [("_law_one", 6)]) (N := n__law_is_run) (by kernel_rfl)) (fun _ _ _ _ _ => (pg_name (i := 6) nd rfl (by first | exact Or.inl rfl | exact Or.inr rfl))) (fun _ _ _ _ _ => (pts_one (pt_not (pt_val (pe_c (c__law_counts T) hr (by decide) rfl (pa_cons (pv 6) pa_nil)))))) (fun _ _ _ _ _ => (pv 6))) (pe_lst pa_nil) (nomark _))))))) (fun _ _ _ _ _ => (pv 5))) (pe_lst pa_nil) (nomark _)) (pss_one (ps_ret pe_bl)) pss_nil)
    (pss_cons (ps_set (i := 7) nd rfl (by first | exact Or.inl rfl | exact Or.inr rfl) (pe_callB (cr_len (K := K) rfl) (by rfl) T.b_len (by decide +kernel) (pa_cons (pe_ix (ixl (K := K) rfl) (pv 4) pe_int (fun _ _ => rfl)) pa_nil)))
    (pss_one (ps_ret (pe_and (pe_cmpR (op_eqLd (K := K) rfl hu64) (pe_lc (own := [("_law_row", 5)]) rfl nd (pil (K := K) rfl (pv 4)) (blkOk_by (own := [("_law_row", 5)]) (N := n__law_is_run) (sc := defScope s__law_is_run) (by decide +kernel)) (fun _ _ _ _ _ => (pg_name (i := 5) nd rfl (by first | exact Or.inl rfl | exact Or.inr rfl))) (fun _ _ _ _ _ => (pts_one (pt_cmpR op_ne (pe_callB (cr_len (K := K) rfl) (by rfl) T.b_len (by decide +kernel) (pa_cons (pv 5) pa_nil)) (pv 7) (nomark _)))) (fun _ _ _ _ _ => (pv 5))) (pe_lst pa_nil) (nomark _)) (pe_one (pe_c (c__law_runs_right T) hr (by decide) rfl (pa_cons (pv 0) (pa_cons (pv 1) (pa_cons (pv 2) (pa_cons (pv 7) pa_nil))))))))))))), ?_⟩
  obtain ⟨v, d, rd, many, h, st, R, rfl, tv, ok, hd, ra, hmany, kf, nn, q⟩ := hsp
  have hnl : h.names.length = h.ms.length := by rw [Hall.names, List.length_map]
  have n4 := ok.n4
  have n1 := ok.n1
  obtain ⟨kvs, hrd, pk⟩ := ra
  have kl : kvs.length = h.names.length := (Paired.length pk).symm
  obtain ⟨a, m0, b, ms, bs, rfl, ha, hm, tm, -, -⟩ := Hall.inv tv
  have emp : ∀ {H : Hp} {D p : Addr} {Q : VK}, H D = some (.lst []) → H p = some (.lst []) → Q (.bl false) H → rNeD K (.ref D) (.ref p) H Q := fun e1 e2 q => ⟨.list [], .list [], .lst (SqL.of e1) .nil, .lst (SqL.of e2) .nil, Sm.shaped (k := 2) (sm_list (k := 1) (by simp)) (by decide), Sm.shaped (k := 2) (sm_list (k := 1) (by simp)) (by decide), q⟩
  have empE : ∀ {H : Hp} {D p : Addr} {Q : VK}, H D = some (.lst []) → H p = some (.lst []) → Q (.bl true) H → rEqD K (.ref D) (.ref p) H Q := fun e1 e2 q => ⟨.list [], .list [], .lst (SqL.of e1) .nil, .lst (SqL.of e2) .nil, Sm.shaped (k := 2) (sm_list (k := 1) (by simp)) (by decide), Sm.shaped (k := 2) (sm_list (k := 1) (by simp)) (by decide), q⟩
  have flF : ∀ l : List Str, l.filter (fun _ => false) = [] := fun l => List.filter_eq_nil_iff.mpr (by simp)
  refine ⟨_, rfl, _, _, _, _, true, rfl, .ty "dict", .base (.dK hrd), kit_ty (by decide +kernel), _, rfl, iteF ?_⟩
  refine ⟨_, rfl, rd, kvs, rfl, hrd, _, rfl, _, _, 0, _, rfl, rfl, SqT.of ha, atI_nat rfl, m0, ms, rfl, .inr (SqT.of hm), rfl, _, rfl, iteNS (by rw [kl, tm.lenm, hnl]) ?_⟩
  refine ⟨_, rfl, _, h, rfl, tv, by omega, fun pN H1 s1 hpN eN => ⟨_, rfl, ⟨_, SqL.of eN⟩, fun D hD => ?_⟩⟩
  refine lc_lst h.names (walk_listL (K := K) (by rw [List.length_map])) hD (fun H s => SqL.of (s _ _ eN)) (fun _ => false) (fun n => .str n) (by omega) (fun i n x H2 H' hi s hy N R2 n2 r' => ?_) (fun H2 ys s2 e2 t2 => ?_)
  · obtain ⟨rfl, hx⟩ := hy
    rw [List.getElem?_map, hi] at hx
    cases hx
    obtain ⟨ae, f1, f2⟩ := rows_get pk (List.mem_of_getElem? hi)
    refine ⟨rfl, _, rfl, _, rfl, rd, _, rfl, DGet.k (k := Sum.inr n) ((s1.trans s) _ _ hrd), ?_⟩
    rw [f1]
    exact ⟨_, rfl, iteF (n2 _ (Same.refl _) rfl)⟩
  rw [flF] at t2
  cases t2
  refine ⟨by show 0 ≤ sizeLine; decide, fun p hp => emp ((Same.new hp) _ _ e2) upd_same ⟨_, rfl, iteF ?_⟩⟩
  have s3 := (s1.trans s2).trans (Same.new hp (o := .lst []))
  generalize upd H2 p (.lst []) = H3 at s3 ⊢
  -- the rows
  refine ⟨_, rfl, _, h, rfl, tv.m s3.tk, by omega, fun pM H4 s4 hpM eM => ⟨_, rfl, ⟨_, SqL.of eM⟩, fun D4 hD4 => ?_⟩⟩
  have s14 := s3.trans s4
  refine lc_lst h.names (walk_listL (K := K) (by rw [List.length_map])) hD4 (fun H s => SqL.of (s _ _ eM)) (fun _ => true) (rowD R many) (by omega) (fun i n x H5 H' hi s hy N R2 _ r' => ?_) (fun H5 ys5 s5 e5 t5 => ?_)
  · obtain ⟨rfl, hx⟩ := hy
    rw [List.getElem?_map, hi] at hx
    cases hx
    obtain ⟨vv, f1, f2⟩ := keys_get (G := fun n v => Tv H v (rowD R many n)) pk (List.mem_of_getElem? hi)
    exact ⟨rfl, yesT ⟨_, rfl, _, rfl, rd, vv, rfl, by rw [← f1]; exact DGet.k (k := Sum.inr n) ((s14.trans s) _ _ hrd), r' _ _ (Same.refl _) rfl (f2.m (s14.trans s).tk)⟩⟩
  rw [flt_true] at t5
  have s15 := s14.trans s5
  refine ⟨_, rfl, _, rfl, ⟨_, SqL.of e5⟩, fun D6 hD6 => ?_⟩
  refine lc_lst h.names (walk_listL (K := K) t5.lenm) hD6 (fun H s => SqL.of (s _ _ e5)) (fun _ => false) (fun n => .str n) (by omega) (fun i n x H6 H' hi s hy N R2 n2 r' => ?_) (fun H6 ys6 s6 e6 t6 => ?_)
  · obtain ⟨rfl, hx⟩ := hy
    obtain ⟨v5, e1, e2'⟩ := (t5.m s.tk).at hi
    rw [e1] at hx
    cases hx
    have hn := List.mem_of_getElem? hi
    obtain ⟨ap, xs, rfl, hap, txr⟩ := Tv.tup_inv e2'
    have exs := txr.ints_inv
    subst exs
    refine ⟨rfl, _, rfl, _, _, _, _, true, rfl, .ty "tuple", .base (.tup hap), kit_ty (by decide +kernel), _, rfl, iteF ?_⟩
    refine ⟨_, rfl, _, rfl, ⟨_, SqT.of hap⟩, fun D7 hD7 => ?_⟩
    refine lc_lst (rowI R n many) (walk_tupL (K := K) (by rw [List.length_map])) hD7 (fun H s => SqT.of (s _ _ hap)) (fun _ => false) (fun _ => .none) (by rw [rowI_len]; omega) (fun i2 b2 x H7 H8 hi2 s7 hy2 N2 R3 n3 r2 => ?_) (fun H7 ys7 s7 e7 t7 => ?_)
    · obtain ⟨rfl, hx2⟩ := hy2
      rw [List.getElem?_map, hi2] at hx2
      cases hx2
      have h0 : 0 ≤ b2 := by
        rw [rowI, List.getElem?_map] at hi2
        obtain ⟨p, p1, p2⟩ := Option.map_eq_some_iff.mp hi2
        obtain ⟨q1, q2⟩ := List.getElem?_eq_some_iff.mp p1
        rw [List.length_range] at q1
        rw [List.getElem_range] at q2
        subst q2
        rw [← p2]
        exact nn n hn _ q1
      exact ⟨rfl, _, rfl, b2, rfl, h0, _, rfl, iteF (n3 _ (Same.refl _) rfl)⟩
    · have fE : (rowI R n many).filter (fun _ => false) = [] := List.filter_eq_nil_iff.mpr (by simp)
      rw [fE] at t7
      cases t7
      exact ⟨by show 0 ≤ sizeLine; decide, fun p8 hp8 => emp ((Same.new hp8) _ _ e7) upd_same ⟨_, rfl, iteF (n2 _ (s7.trans (Same.new hp8)) rfl)⟩⟩
  rw [flF] at t6
  cases t6
  refine ⟨by show 0 ≤ sizeLine; decide, fun p9 hp9 => emp ((Same.new hp9) _ _ e6) upd_same ⟨_, rfl, iteF ?_⟩⟩
  have k9 : Same H6 (upd H6 p9 (.lst [])) := Same.new hp9
  have s19 := (s15.trans s6).trans k9
  have e59 := (s6.trans k9) _ _ e5
  have t59 := t5.m (s6.trans k9).tk
  generalize upd H6 p9 (.lst []) = H9 at s19 e59 t59 ⊢
  have en0 : h.names[0]? = some (h.names[0]'(by omega)) := List.getElem?_eq_getElem _
  obtain ⟨v0, e01, e02⟩ := t59.at en0
  obtain ⟨ap0, xs0, rfl, hap0, txr0⟩ := Tv.tup_inv e02
  have l0 : xs0.length = many := by rw [txr0.len, List.length_map, rowI_len]
  refine ⟨_, rfl, _, _, 0, _, rfl, rfl, SqL.of e59, atI_nat e01, ap0, xs0, rfl, .inr (SqT.of hap0), ?_⟩
  rw [l0]
  refine ⟨_, rfl, _, rfl, ⟨_, SqL.of e59⟩, fun D10 hD10 => ?_⟩
  refine lc_lst h.names (walk_listL (K := K) t59.lenm) hD10 (fun H s => SqL.of (s _ _ e59)) (fun _ => false) (fun n => .str n) (by omega) (fun i n x H10 H' hi s hy N R2 n2 r' => ?_) (fun H10 ys10 s10 e10 t10 => ?_)
  · obtain ⟨rfl, hx⟩ := hy
    obtain ⟨v5, e1, e2'⟩ := (t59.m s.tk).at hi
    rw [e1] at hx
    cases hx
    obtain ⟨ap, xs, rfl, hap, txr⟩ := Tv.tup_inv e2'
    have lx : xs.length = many := by rw [txr.len, List.length_map, rowI_len]
    exact ⟨rfl, _, rfl, ap, xs, rfl, .inr (SqT.of hap), _, rfl, rfl, _, rfl, iteNS (by rw [lx]) (n2 _ (Same.refl _) rfl)⟩
  rw [flF] at t10
  cases t10
  refine ⟨by show 0 ≤ sizeLine; decide, fun p11 hp11 => empE ((Same.new hp11) _ _ e10) upd_same ⟨_, rfl, iteT ?_⟩⟩
  have s111 := (s19.trans s10).trans (Same.new hp11 (o := .lst []))
  exact ⟨_, rfl, _, rfl, _, rfl, _, rfl, .ref a, d, rd, many, h, st, R, rfl, tv.m s111.tk, ok, s111 _ _ hd, RunAt.m ⟨kvs, hrd, pk⟩ s111, hmany, kf, fun H12 s12 => q _ (s111.trans s12)⟩
end
end K41
/-! draws -/
namespace K41
open PySem PySem.Spec PyProof.Rows L2
open C8 (Cal pe_c)
structure BagAt (H : Hp) (b c : Addr) : Prop where
  ex : ∃ (x0 x1 : Int) (x2 : Nat) (ns : List Int), H b = some (.lst [.int x0, .int x1, .int (x2 : Int), .ref c]) ∧ H c = some (.lst (ns.map .int)) ∧ ns.length ≤ 63 ∧ c ≠ b
theorem BagAt.m {H H' : Hp} {b c : Addr} (a : BagAt H b c) (s : Same H H') : BagAt H' b c := by
  obtain ⟨x0, x1, x2, ns, h1, h2, h3, h4⟩ := a.ex
  exact ⟨x0, x1, x2, ns, s _ _ h1, s _ _ h2, h3, h4⟩
theorem BagAt.ntup {H : Hp} {b c : Addr} (a : BagAt H b c) : ∀ a' xs, S1 b a' → H a' ≠ some (.tup xs) := by
  obtain ⟨x0, x1, x2, ns, h1, _⟩ := a.ex
  intro a' xs e
  cases (show a' = b from e)
  rw [h1]
  intro z
  cases z
theorem BagAt.tk {H H' : Hp} {b c : Addr} (a : BagAt H b c) (s : Sx (S1 b) H H') : TK H H' := s.tk a.ntup
theorem BagAt.there {H : Hp} {b c : Addr} (a : BagAt H b c) : H b ≠ none ∧ H c ≠ none := by
  obtain ⟨x0, x1, x2, ns, h1, h2, _⟩ := a.ex
  exact ⟨by rw [h1]; simp, by rw [h2]; simp⟩
theorem BagAt.upd {H : Hp} {b c F : Addr} {o : HO} (a : BagAt H b c) (hb : F ≠ b) (hc : F ≠ c) : BagAt (L2.upd H F o) b c := by
  obtain ⟨x0, x1, x2, ns, h1, h2, h3, h4⟩ := a.ex
  exact ⟨x0, x1, x2, ns, by rw [upd_ne (Ne.symm hb)]; exact h1, by rw [upd_ne (Ne.symm hc)]; exact h2, h3, h4⟩
theorem cutV_ints (ns : List Int) (lo hi : Option Int) : ∃ ms : List Int, cutV (ns.map V.int) lo hi = ms.map V.int ∧ ms.length ≤ ns.length ∧ ms.length ≤ HT.sIx ns.length ns.length hi := by
  refine ⟨(ns.drop (HT.sIx ns.length 0 lo)).take (HT.sIx ns.length ns.length hi - HT.sIx ns.length 0 lo), ?_, ?_, ?_⟩
  · unfold cutV
    rw [List.length_map, ← List.map_drop, ← List.map_take]
  · rw [List.length_take, List.length_drop]
    omega
  · rw [List.length_take]
    omega
section
variable {P : Program} {w : World} {K : PySem.W.Frag} {mg : Str → Option Value} {base : Heap}
def sp__law_bag (K : PySem.W.Frag) : Sp := fun vs H Q _ => ∃ (a : Addr) (ns : List Int), vs = [.ref a] ∧ SqL K H a (ns.map .int) ∧ ns.length ≤ 63 ∧ ∀ p c H', Same H H' → H p = none → H c = none → BagAt H' p c → Q (.ref p) H'
theorem c__law_bag (T : Txt K mg) : Cal P w K mg base 1 "_law_bag" (sp__law_bag K) [] := by
  refine cal_of T.d__law_bag sc__law_bag (fun vs H Q E h => by first | (obtain ⟨_, rfl, _⟩ := h; rfl) | (obtain ⟨_, _, rfl, _⟩ := h; rfl) | (obtain ⟨_, _, _, rfl, _⟩ := h; rfl) | (obtain ⟨_, _, _, _, rfl, _⟩ := h; rfl) | (obtain ⟨_, _, _, _, _, rfl, _⟩ := h; rfl) | (obtain ⟨_, _, _, _, _, _, rfl, _⟩ := h; rfl) | (obtain ⟨_, _, _, _, _, _, _, rfl, _⟩ := h; rfl) | (obtain ⟨_, _, _, _, _, _, _, _, rfl, _⟩ := h; rfl) | (obtain ⟨_, _, _, _, _, _, _, _, _, rfl, _⟩ := h; rfl) | (obtain ⟨_, _, _, _, _, _, _, _, _, _, rfl, _⟩ := h; rfl) | (obtain ⟨_, _, _, _, _, _, _, _, _, _, _, rfl, _⟩ := h; rfl) | (obtain ⟨_, _, _, _, _, _, _, _, _, _, _, _, rfl, _⟩ := h; rfl)) bi__law_bag (fun f cdv A outer s H vs Q E hr hsp => ?_)
  have hu := hu_of hr
  have hu64 := hr.units
  have hu2 := hu2_of hr
  have hu80 := hu80_of hr
  have nd := sc__law_bag.nd
  refine ⟨_, (pss_one (ps_ret (pe_lst (pa_cons pe_int (pa_cons pe_int (pa_cons pe_int (pa_cons (pe_lc (own := [("_law_cell", 1)]) rfl nd (pil (K := K) rfl (pe_slice (sl_listK (K := K) rfl) (pv 0) po_none (po_some pe_int))) (blkOk_by (own := [("_law_cell", 1)]) (N := n__law_bag) (sc := defScope s__law_bag) (by decide +kernel)) (fun _ _ _ _ _ => (pg_name (i := 1) nd rfl (by first | exact Or.inl rfl | exact Or.inr rfl))) (fun _ _ _ _ _ => pts_nil) (fun _ _ _ _ _ => (pe_callB call_abs (by rfl) T.b_abs (by decide +kernel) (pa_cons (pv 1) pa_nil)))) pa_nil))))))), ?_⟩
  obtain ⟨a, ns, rfl, hs, hl, q⟩ := hsp
  obtain ⟨ms, em, lm, -⟩ := cutV_ints ns none (some 63)
  refine ⟨_, rfl, _, rfl, a, _, rfl, hs, fun p hp => ⟨_, rfl, ⟨_, SqL.of upd_same⟩, fun D hD => ?_⟩⟩
  rw [em] at hD ⊢
  have s1 : Same H (upd H p (.lst (ms.map V.int))) := Same.new hp
  have e1 : (upd H p (.lst (ms.map V.int))) p = some (.lst (ms.map V.int)) := upd_same
  generalize upd H p (.lst (ms.map V.int)) = H1 at hD s1 e1 ⊢
  refine lc_lst ms (walk_listL (K := K) (by rw [List.length_map])) hD (fun H s => SqL.of (s _ _ e1)) (fun _ => true) (fun i => .int (if i < 0 then -i else i)) (by omega) (fun i y x H2 H' hi s hy N R _ r => ?_) (fun H2 ys s2 e2 t2 => ?_)
  · obtain ⟨rfl, hx⟩ := hy
    rw [List.getElem?_map, hi] at hx
    cases hx
    exact ⟨rfl, yesT ⟨_, rfl, _, rfl, r _ _ (Same.refl _) rfl (.int _)⟩⟩
  · rw [flt_true] at t2
    have ey := TvAll.ints_of t2
    subst ey
    refine ⟨by show 4 ≤ sizeLine; decide, fun b hb => ?_⟩
    have s3 : Same H2 (upd H2 b (.lst [.int 0, .int 1234567891, .int 0, .ref D])) := Same.new hb
    refine q b D _ ((s1.trans s2).trans s3) ((s1.trans s2).free hb) (s1.free hD) ⟨0, 1234567891, 0, _, upd_same, s3 _ _ e2, by rw [List.length_map]; omega, fun z => by subst z; rw [e2] at hb; cases hb⟩
def sp__law_take : Sp := fun vs H Q _ => ∃ (b c : Addr) (m : Int), vs = [.ref b, .int m] ∧ BagAt H b c ∧ 0 < m ∧ m < 1073741824 ∧ ∀ i H', Sx (S1 b) H H' → BagAt H' b c → 0 ≤ i → i < m → Q (.int i) H'
theorem c__law_take (T : Txt K mg) : Cal P w K mg base 1 "_law_take" (sp__law_take) [] := by
  refine cal_of T.d__law_take sc__law_take (fun vs H Q E h => by first | (obtain ⟨_, rfl, _⟩ := h; rfl) | (obtain ⟨_, _, rfl, _⟩ := h; rfl) | (obtain ⟨_, _, _, rfl, _⟩ := h; rfl) | (obtain ⟨_, _, _, _, rfl, _⟩ := h; rfl) | (obtain ⟨_, _, _, _, _, rfl, _⟩ := h; rfl) | (obtain ⟨_, _, _, _, _, _, rfl, _⟩ := h; rfl) | (obtain ⟨_, _, _, _, _, _, _, rfl, _⟩ := h; rfl) | (obtain ⟨_, _, _, _, _, _, _, _, rfl, _⟩ := h; rfl) | (obtain ⟨_, _, _, _, _, _, _, _, _, rfl, _⟩ := h; rfl) | (obtain ⟨_, _, _, _, _, _, _, _, _, _, rfl, _⟩ := h; rfl) | (obtain ⟨_, _, _, _, _, _, _, _, _, _, _, rfl, _⟩ := h; rfl) | (obtain ⟨_, _, _, _, _, _, _, _, _, _, _, _, rfl, _⟩ := h; rfl)) bi__law_take (fun f cdv A outer s H vs Q E hr hsp => ?_)
  have hu := hu_of hr
  have hu64 := hr.units
  have hu2 := hu2_of hr
  have hu80 := hu80_of hr
  have nd := sc__law_take.nd
  refine ⟨_, (pss_cons (ps_if (pt_cmpR op_eq (pe_ix (ixl (K := K) rfl) (pv 0) pe_int (fun _ _ => rfl)) pe_int (nomark _)) (pss_cons (ps_set (i := 2) nd rfl (by first | exact Or.inl rfl | exact Or.inr rfl) (pe_ix (ixl (K := K) rfl) (pe_op (op_catK (K := K) rfl) (pe_slice (sl_listK (K := K) rfl) (pe_ix (ixl (K := K) rfl) (pv 0) pe_int (fun _ _ => rfl)) (po_some (pe_ix (ixl (K := K) rfl) (pv 0) pe_int (fun _ _ => rfl))) po_none) (pe_lst (pa_cons pe_int pa_nil))) pe_int (fun _ _ => rfl)))
    (pss_cons (ps_augS (pv 0) pe_int get_list pe_int ip_add set_list)
    (pss_cons (ps_if (pt_cmpR op_ge (pv 2) (pe_op op_pow pe_int pe_int) (nomark _)) (pss_one (ps_asg (pv 2) (pg_sub (pv 0) pe_int set_list))) pss_nil)
    (pss_cons (ps_set (i := 3) nd rfl (by first | exact Or.inl rfl | exact Or.inr rfl) (pe_op op_add (pe_op op_add (pe_op op_mul (pe_ix (ixl (K := K) rfl) (pv 0) pe_int (fun _ _ => rfl)) pe_int) (pe_op op_mod (pe_callTy call_int1 (by rfl) T.b_int (by decide +kernel) (pa_cons (pv 2) pa_nil)) pe_int)) (pe_op op_mul pe_int (pe_ix (ixl (K := K) rfl) (pv 0) pe_int (fun _ _ => rfl)))))
    (pss_one (ps_asg (pe_op op_mod (pe_callTy call_int1 (by rfl) T.b_int (by decide +kernel) (pa_cons (pv 3) pa_nil)) pe_int) (pg_sub (pv 0) pe_int set_list))))))) pss_nil)
    (pss_cons (ps_if (pt_cmpR op_gt (pe_ix (ixl (K := K) rfl) (pv 0) pe_int (fun _ _ => rfl)) pe_int (nomark _)) (pss_cons (ps_set (i := 4) nd rfl (by first | exact Or.inl rfl | exact Or.inr rfl) (pe_op op_mod (pe_callTy call_int1 (by rfl) T.b_int (by decide +kernel) (pa_cons (pe_ix (ixl (K := K) rfl) (pv 0) pe_int (fun _ _ => rfl)) pa_nil)) (pv 1)))
    (pss_cons (ps_asg (pe_op op_fdiv (pe_callTy call_int1 (by rfl) T.b_int (by decide +kernel) (pa_cons (pe_ix (ixl (K := K) rfl) (pv 0) pe_int (fun _ _ => rfl)) pa_nil)) (pv 1)) (pg_sub (pv 0) pe_int set_list))
    (pss_one (ps_ret (pv 4))))) pss_nil)
    (pss_cons (ps_set (i := 5) nd rfl (by first | exact Or.inl rfl | exact Or.inr rfl) (pe_op op_mod (pe_callTy call_int1 (by rfl) T.b_int (by decide +kernel) (pa_cons (pe_op op_mul (pe_op op_add (pe_ix (ixl (K := K) rfl) (pv 0) pe_int (fun _ _ => rfl)) pe_int) pe_int) pa_nil)) pe_int))
    (pss_cons (ps_set (i := 6) nd rfl (by first | exact Or.inl rfl | exact Or.inr rfl) (pe_op op_mod (pe_callTy call_int1 (by rfl) T.b_int (by decide +kernel) (pa_cons (pe_op op_mul (pe_op op_mod (pe_callTy call_int1 (by rfl) T.b_int (by decide +kernel) (pa_cons (pe_op op_mul (pv 5) (pv 5)) pa_nil)) pe_int) pe_int) pa_nil)) pe_int))
    (pss_one (ps_ret (pe_op op_mod (pe_callTy call_int1 (by rfl) T.b_int (by decide +kernel) (pa_cons (pe_op op_fdiv (pv 6) pe_int) pa_nil)) (pv 1)))))))), ?_⟩
  obtain ⟨b, c, m, rfl, bg, m0, m1, q⟩ := hsp
  refine tSeq_mid (fun σ' H' => (∃ o2 o3, σ' = [some (.ref b), some (.int m), o2, o3, none, none, none]) ∧ Sx (S1 b) H H' ∧ BagAt H' b c) (fun En kk => ?_) (fun σ1 H1 pp => ?_)
  · obtain ⟨x0, x1, x2, ns, h1, h2, h3, h4⟩ := bg.ex
    refine ⟨_, rfl, b, _, 0, _, rfl, rfl, SqL.of h1, atI_nat rfl, rfl, _, rfl, ?_⟩
    refine ite2 (fun cc => ?_) (fun cc => kk _ _ ⟨⟨_, _, rfl⟩, Sx.refl _, bg⟩)
    obtain ⟨ms, em, lm, -⟩ := cutV_ints ns (some (x2 : Int)) none
    refine ⟨_, rfl, b, _, 3, _, rfl, rfl, SqL.of h1, atI_nat rfl, _, rfl, b, _, 2, _, rfl, rfl, SqL.of h1, atI_nat rfl, _, rfl, c, _, rfl, SqL.of h2, fun p hp => ⟨by show 1 ≤ sizeLine; decide, fun p2 hp2 => ?_⟩⟩
    rw [em] at hp2 ⊢
    have k1 : Same H (upd H p (.lst (ms.map V.int))) := Same.new hp
    have k2 : Same _ (upd (upd H p (.lst (ms.map V.int))) p2 (.lst [.int 0])) := Same.new hp2
    refine ⟨p, p2, ms.map V.int, [.int 0], rfl, rfl, k2 _ _ upd_same, upd_same, by rw [List.length_map]; exact small (by simp only [List.length_cons, List.length_nil]; omega), fun p3 hp3 => ?_⟩
    have k3 : Same _ (upd (upd (upd H p (.lst (ms.map V.int))) p2 (.lst [.int 0])) p3 (.lst (ms.map V.int ++ [.int 0]))) := Same.new hp3
    have k := (k1.trans k2).trans k3
    have e3 : (upd (upd (upd H p (.lst (ms.map V.int))) p2 (.lst [.int 0])) p3 (.lst (ms.map V.int ++ [.int 0]))) p3 = some (.lst (ms.map V.int ++ [.int 0])) := upd_same
    generalize upd (upd (upd H p (.lst (ms.map V.int))) p2 (.lst [.int 0])) p3 (.lst (ms.map V.int ++ [.int 0])) = H3 at k e3 ⊢
    obtain ⟨cell, ec⟩ : ∃ cell : Int, (ms.map V.int ++ [.int 0])[0]? = some (.int cell) := by
      cases ms with
      | nil => exact ⟨0, rfl⟩
      | cons x l => exact ⟨x, rfl⟩
    refine ⟨p3, _, _, .int cell, rfl, rfl, SqL.of e3, atI_nat ec, ?_⟩
    have b3 := k _ _ h1
    have c3 := k _ _ h2
    -- bag[2] += 1
    refine ⟨_, rfl, b, _, 2, _, rfl, rfl, b3, rfl, _, _, rfl, rfl, b, _, 2, 2, rfl, rfl, b3, rfl, ?_⟩
    have b4 : (upd H3 b (.lst [.int x0, .int x1, .int (((x2 + 1 : Nat)) : Int), .ref c])) b = some (.lst [.int x0, .int x1, .int (((x2 + 1 : Nat)) : Int), .ref c]) := upd_same
    have c4 : (upd H3 b (.lst [.int x0, .int x1, .int (((x2 + 1 : Nat)) : Int), .ref c])) c = some (.lst (ns.map .int)) := by rw [upd_ne h4]; exact c3
    have s4 : Sx (S1 b) H (upd H3 b (.lst [.int x0, .int x1, .int (((x2 + 1 : Nat)) : Int), .ref c])) := Sx.at (same_sx k) rfl
    have eH : upd H3 b (.lst ([.int x0, .int x1, .int (x2 : Int), .ref c].set 2 (.int ((x2 : Int) + 1)))) = upd H3 b (.lst [.int x0, .int x1, .int (((x2 + 1 : Nat)) : Int), .ref c]) := rfl
    dsimp only
    rw [eH]
    generalize upd H3 b (.lst [.int x0, .int x1, .int (((x2 + 1 : Nat)) : Int), .ref c]) = H4 at b4 c4 s4 ⊢
    refine tSeq_mid (fun σ' H' => σ' = [some (.ref b), some (.int m), some (.int cell), none, none, none, none] ∧ Sx (S1 b) H H' ∧ ∃ x0', H' b = some (.lst [.int x0', .int x1, .int (((x2 + 1 : Nat)) : Int), .ref c]) ∧ H' c = some (.lst (ns.map .int))) (fun En2 kk2 => ?_) (fun σ5 H5 pp => ?_)
    · refine ⟨_, rfl, _, _, rfl, rfl, ⟨by decide, by decide, by decide⟩, _, _, rfl, rfl, _, rfl, ?_⟩
      refine ite2 (fun c5 => ?_) (fun c5 => kk2 _ _ ⟨rfl, s4, x0, b4, c4⟩)
      exact ⟨_, rfl, _, rfl, b, _, 0, 0, rfl, rfl, b4, rfl, kk2 _ _ ⟨rfl, s4.at rfl, cell, upd_same, by rw [upd_ne h4]; exact c4⟩⟩
    · obtain ⟨rfl, s5, x0', b5, c5⟩ := pp
      refine ⟨_, rfl, b, _, 1, _, rfl, rfl, SqL.of b5, atI_nat rfl, _, _, rfl, rfl, .inr ⟨by decide, by decide⟩, _, rfl, .inl ⟨_, rfl, _, _, rfl, rfl, by show (0 : Int) < 2147483647; decide, _, _, rfl, rfl, _, rfl, b, _, 2, _, rfl, rfl, SqL.of b5, atI_nat rfl, _, _, rfl, rfl, .inl ⟨by decide, by decide⟩, _, _, rfl, rfl, ?_⟩⟩
      refine ⟨_, rfl, .inl ⟨_, rfl, _, _, rfl, rfl, by show (0 : Int) < 2147483647; decide, _, rfl, b, _, 1, 1, rfl, rfl, b5, rfl, kk _ _ ⟨⟨_, _, rfl⟩, s5.at rfl, ⟨x0', _, x2 + 1, ns, upd_same, by rw [upd_ne h4]; exact c5, h3, h4⟩⟩⟩⟩
  · obtain ⟨⟨o2, o3, rfl⟩, s1, bg1⟩ := pp
    obtain ⟨x0, x1, x2, ns, h1, h2, h3, h4⟩ := bg1.ex
    refine ⟨_, rfl, b, _, 0, _, rfl, rfl, SqL.of h1, atI_nat rfl, _, _, rfl, rfl, _, rfl, ite2 (fun cc => ?_) (fun cc => ?_)⟩
    · refine ⟨_, rfl, b, _, 0, _, rfl, rfl, SqL.of h1, atI_nat rfl, .inl ⟨_, rfl, _, rfl, _, _, rfl, rfl, m0, ?_⟩⟩
      refine ⟨_, rfl, b, _, 0, _, rfl, rfl, SqL.of h1, atI_nat rfl, .inl ⟨_, rfl, _, rfl, _, _, rfl, rfl, ⟨m0, m1⟩, _, rfl, b, _, 0, 0, rfl, rfl, h1, rfl, ?_⟩⟩
      refine ⟨_, rfl, q _ _ (s1.at rfl) ⟨_, x1, x2, ns, upd_same, by rw [upd_ne h4]; exact h2, h3, h4⟩ (Int.emod_nonneg _ (by omega)) (Int.emod_lt_of_pos _ m0)⟩
    · refine ⟨_, rfl, b, _, 1, _, rfl, rfl, SqL.of h1, atI_nat rfl, _, _, rfl, rfl, _, _, rfl, rfl, .inr ⟨by decide, by decide⟩, .inl ⟨_, rfl, _, _, rfl, rfl, by show (0 : Int) < 1000000007; decide, ?_⟩⟩
      have bb := Int.emod_nonneg ((x1 + 1) * 39373) (show (1000000007 : Int) ≠ 0 by decide)
      have bl := Int.emod_lt_of_pos ((x1 + 1) * 39373) (show (0 : Int) < 1000000007 by decide)
      refine ⟨_, rfl, _, rfl, _, _, rfl, rfl, .inl ⟨by omega, by omega⟩, .inl ⟨_, rfl, _, _, rfl, rfl, by show (0 : Int) < 998244353; decide, _, _, rfl, rfl, .inr ⟨by decide, by decide⟩, .inl ⟨_, rfl, _, _, rfl, rfl, by show (0 : Int) < 998244353; decide, ?_⟩⟩⟩
      refine ⟨_, rfl, _, _, rfl, rfl, ⟨by decide, by decide⟩, .inl ⟨_, rfl, _, rfl, _, _, rfl, rfl, m0, q _ _ s1 bg1 (Int.emod_nonneg _ (by omega)) (Int.emod_lt_of_pos _ m0)⟩⟩
def sp__law_mixed : Sp := fun vs H Q _ => ∃ (b c t : Addr) (xs : List V), vs = [.ref b, .ref t] ∧ BagAt H b c ∧ H t = some (.lst xs) ∧ t ≠ b ∧ xs.length ≤ 100000 ∧ ∀ p H' ys, Sx (S1 b) H H' → BagAt H' b c → H p = none → H' p = some (.lst ys) → ys.Perm xs → Q (.ref p) H'
theorem c__law_mixed (T : Txt K mg) : Cal P w K mg base 2 "_law_mixed" (sp__law_mixed) [] := by
  refine cal_of T.d__law_mixed sc__law_mixed (fun vs H Q E h => by first | (obtain ⟨_, rfl, _⟩ := h; rfl) | (obtain ⟨_, _, rfl, _⟩ := h; rfl) | (obtain ⟨_, _, _, rfl, _⟩ := h; rfl) | (obtain ⟨_, _, _, _, rfl, _⟩ := h; rfl) | (obtain ⟨_, _, _, _, _, rfl, _⟩ := h; rfl) | (obtain ⟨_, _, _, _, _, _, rfl, _⟩ := h; rfl) | (obtain ⟨_, _, _, _, _, _, _, rfl, _⟩ := h; rfl) | (obtain ⟨_, _, _, _, _, _, _, _, rfl, _⟩ := h; rfl) | (obtain ⟨_, _, _, _, _, _, _, _, _, rfl, _⟩ := h; rfl) | (obtain ⟨_, _, _, _, _, _, _, _, _, _, rfl, _⟩ := h; rfl) | (obtain ⟨_, _, _, _, _, _, _, _, _, _, _, rfl, _⟩ := h; rfl) | (obtain ⟨_, _, _, _, _, _, _, _, _, _, _, _, rfl, _⟩ := h; rfl)) bi__law_mixed (fun f cdv A outer s H vs Q E hr hsp => ?_)
  have hu := hu_of hr
  have hu64 := hr.units
  have hu2 := hu2_of hr
  have hu80 := hu80_of hr
  have nd := sc__law_mixed.nd
  refine ⟨_, (pss_cons (ps_set (i := 2) nd rfl (by first | exact Or.inl rfl | exact Or.inr rfl) (pe_lst pa_nil))
    (pss_cons (ps_for PassesOwn.never rfl (pil (K := K) rfl (pv 1)) (pg_name (i := 3) nd rfl (by first | exact Or.inl rfl | exact Or.inr rfl)) (pss_one (ps_expr (pe_bm PySem.F.plainAttrs_list PySem.F.slot_list_insert PySem.F.type_list_insert mt_insert (pv 2) (pa_cons (pe_c (c__law_take T) hr (by decide) rfl (pa_cons (pv 0) (pa_cons (pe_op op_add (pe_callB (cr_len (K := K) rfl) (by rfl) T.b_len (by decide +kernel) (pa_cons (pv 2) pa_nil)) pe_int) pa_nil))) (pa_cons (pv 3) pa_nil))))))
    (pss_one (ps_ret (pv 2))))), ?_⟩
  obtain ⟨b, c, t, xs, rfl, bg, ht, tb, hl, q⟩ := hsp
  have hbc := bg.there
  refine ⟨by show 0 ≤ sizeLine; decide, fun F hF => ?_⟩
  have s0 : Same H (upd H F (.lst [])) := Same.new hF
  refine ⟨_, rfl, _, rfl, ⟨_, SqL.of (s0 _ _ ht)⟩, ?_⟩
  have Fb : F ≠ b := fun z => by subst z; exact hbc.1 hF
  have Fc : F ≠ c := fun z => by subst z; exact hbc.2 hF
  refine for_it (walk_listL (K := K) (xs := xs) (n := xs.length) rfl) (fun i σ H' => (∃ o3, σ = [some (.ref b), some (.ref t), some (.ref F), o3]) ∧ Sx (S1 b) H H' ∧ BagAt H' b c ∧ ∃ ys : List V, H' F = some (.lst ys) ∧ ys.Perm (xs.take i) ∧ ys.length = i)
    ⟨⟨_, rfl⟩, same_sx s0, bg.m s0, [], upd_same, List.Perm.refl _, rfl⟩ (fun i σ H' _ p => SqL.of (p.2.1 _ _ tb ht)) (fun i x σ H1 H2 hi p hy => ?_) (fun σ H1 p => ?_)
  · obtain ⟨⟨o3, rfl⟩, s1, bg1, ys, eF, pm, lys⟩ := p
    obtain ⟨rfl, hx⟩ := hy
    have etk : xs.take (i + 1) = xs.take i ++ [x] := by rw [List.take_succ, hx]; rfl
    refine ⟨_, rfl, .inl ⟨rfl, _, SqL.of eF⟩, _, rfl, _, rfl, F, ys, rfl, .inl (SqL.of eF), _, _, rfl, rfl, b, c, _, rfl, bg1, by omega, by omega, fun j H3 s3 bg3 j0 j1 => ?_⟩
    have eF3 := s3 F _ Fb eF
    have s13 := s1.trans s3
    refine ⟨_, rfl, F, ys, j, x, rfl, rfl, eF3, smallL (by omega), j0, by omega, ⟨_, rfl⟩, s13.mut hF, bg3.upd Fb Fc, _, upd_same, ?_, ?_⟩
    · rw [etk]
      have h1 : (ys.take j.toNat ++ [x] ++ ys.drop j.toNat).Perm (ys ++ [x]) := by
        have h2 : (ys.take j.toNat ++ ys.drop j.toNat ++ [x]).Perm (ys ++ [x]) := by rw [List.take_append_drop]
        refine List.Perm.trans ?_ h2
        rw [List.append_assoc, List.append_assoc]
        exact List.Perm.append_left _ List.perm_append_comm
      exact h1.trans (pm.append_right [x])
    · rw [List.length_append, List.length_append, List.length_take, List.length_drop, List.length_singleton]
      omega
  · obtain ⟨⟨o3, rfl⟩, s1, bg1, ys, eF, pm, lys⟩ := p
    rw [List.take_length] at pm
    exact ⟨_, rfl, q F _ ys s1 bg1 hF eF pm⟩
def sp__law_some : Sp := fun vs H Q _ => ∃ (b c t : Addr) (xs : List V), vs = [.ref b, .ref t] ∧ BagAt H b c ∧ H t = some (.lst xs) ∧ t ≠ b ∧ 0 < xs.length ∧ xs.length ≤ 100000 ∧ ∀ v H', Sx (S1 b) H H' → BagAt H' b c → v ∈ xs → Q v H'
theorem c__law_some (T : Txt K mg) : Cal P w K mg base 2 "_law_some" (sp__law_some) [] := by
  refine cal_of T.d__law_some sc__law_some (fun vs H Q E h => by first | (obtain ⟨_, rfl, _⟩ := h; rfl) | (obtain ⟨_, _, rfl, _⟩ := h; rfl) | (obtain ⟨_, _, _, rfl, _⟩ := h; rfl) | (obtain ⟨_, _, _, _, rfl, _⟩ := h; rfl) | (obtain ⟨_, _, _, _, _, rfl, _⟩ := h; rfl) | (obtain ⟨_, _, _, _, _, _, rfl, _⟩ := h; rfl) | (obtain ⟨_, _, _, _, _, _, _, rfl, _⟩ := h; rfl) | (obtain ⟨_, _, _, _, _, _, _, _, rfl, _⟩ := h; rfl) | (obtain ⟨_, _, _, _, _, _, _, _, _, rfl, _⟩ := h; rfl) | (obtain ⟨_, _, _, _, _, _, _, _, _, _, rfl, _⟩ := h; rfl) | (obtain ⟨_, _, _, _, _, _, _, _, _, _, _, rfl, _⟩ := h; rfl) | (obtain ⟨_, _, _, _, _, _, _, _, _, _, _, _, rfl, _⟩ := h; rfl)) bi__law_some (fun f cdv A outer s H vs Q E hr hsp => ?_)
  have hu := hu_of hr
  have hu64 := hr.units
  have hu2 := hu2_of hr
  have hu80 := hu80_of hr
  have nd := sc__law_some.nd
  refine ⟨_, (pss_one (ps_ret (pe_ix (ixl (K := K) rfl) (pv 1) (pe_c (c__law_take T) hr (by decide) rfl (pa_cons (pv 0) (pa_cons (pe_callB (cr_len (K := K) rfl) (by rfl) T.b_len (by decide +kernel) (pa_cons (pv 1) pa_nil)) pa_nil))) (fun _ _ => rfl)))), ?_⟩
  obtain ⟨b, c, t, xs, rfl, bg, ht, tb, h0, hl, q⟩ := hsp
  refine ⟨_, rfl, _, rfl, _, rfl, t, xs, rfl, .inl (SqL.of ht), b, c, _, rfl, bg, by omega, by omega, fun j H1 s1 bg1 j0 j1 => ?_⟩
  have hj : j.toNat < xs.length := by omega
  have ej : xs[j.toNat]? = some xs[j.toNat] := List.getElem?_eq_getElem hj
  have e2 : ((j.toNat : Nat) : Int) = j := Int.toNat_of_nonneg j0
  exact ⟨t, xs, ((j.toNat : Nat) : Int), _, rfl, by rw [e2], SqL.of (s1 _ _ tb ht), atI_nat ej, q _ _ s1 bg1 (List.getElem_mem hj)⟩
def sp__law_first : Sp := fun vs H Q _ => ∃ (b c : Addr) (room : Nat), vs = [.ref b, .int (room : Int)] ∧ BagAt H b c ∧ room ≤ 1000 ∧ ∀ (k : Nat) H', Sx (S1 b) H H' → BagAt H' b c → k ≤ room → Q (.int (k : Int)) H'
theorem c__law_first (T : Txt K mg) : Cal P w K mg base 3 "_law_first" (sp__law_first) [] := by
  refine cal_of T.d__law_first sc__law_first (fun vs H Q E h => by first | (obtain ⟨_, rfl, _⟩ := h; rfl) | (obtain ⟨_, _, rfl, _⟩ := h; rfl) | (obtain ⟨_, _, _, rfl, _⟩ := h; rfl) | (obtain ⟨_, _, _, _, rfl, _⟩ := h; rfl) | (obtain ⟨_, _, _, _, _, rfl, _⟩ := h; rfl) | (obtain ⟨_, _, _, _, _, _, rfl, _⟩ := h; rfl) | (obtain ⟨_, _, _, _, _, _, _, rfl, _⟩ := h; rfl) | (obtain ⟨_, _, _, _, _, _, _, _, rfl, _⟩ := h; rfl) | (obtain ⟨_, _, _, _, _, _, _, _, _, rfl, _⟩ := h; rfl) | (obtain ⟨_, _, _, _, _, _, _, _, _, _, rfl, _⟩ := h; rfl) | (obtain ⟨_, _, _, _, _, _, _, _, _, _, _, rfl, _⟩ := h; rfl) | (obtain ⟨_, _, _, _, _, _, _, _, _, _, _, _, rfl, _⟩ := h; rfl)) bi__law_first (fun f cdv A outer s H vs Q E hr hsp => ?_)
  have hu := hu_of hr
  have hu64 := hr.units
  have hu2 := hu2_of hr
  have hu80 := hu80_of hr
  have nd := sc__law_first.nd
  refine ⟨_, (pss_one (ps_ret (pe_c (c__law_some T) hr (by decide) rfl (pa_cons (pv 0) (pa_cons (pe_lst (pa_cons (pv 1) (pa_cons (pv 1) (pa_cons pe_int (pa_cons (pe_c (c__law_take T) hr (by decide) rfl (pa_cons (pv 0) (pa_cons (pe_op op_add (pv 1) pe_int) pa_nil))) pa_nil))))) pa_nil))))), ?_⟩
  obtain ⟨b, c, room, rfl, bg, hr1, q⟩ := hsp
  refine ⟨_, rfl, _, rfl, _, rfl, _, rfl, _, rfl, _, _, rfl, rfl, b, c, _, rfl, bg, by omega, by omega, fun j H1 s1 bg1 j0 j1 => ⟨by show 4 ≤ sizeLine; decide, fun p hp => ?_⟩⟩
  have k1 : Same H1 (upd H1 p (.lst [.int (room : Int), .int (room : Int), .int 0, .int j])) := Same.new hp
  have bg2 := bg1.m k1
  refine ⟨b, c, p, _, rfl, bg2, upd_same, fun z => by subst z; exact bg1.there.1 hp, by simp, by simp, fun v H2 s2 bg3 hv => ?_⟩
  have sx := (s1.trans (same_sx k1)).trans s2
  simp only [List.mem_cons, List.not_mem_nil, or_false] at hv
  have ej : ((j.toNat : Nat) : Int) = j := Int.toNat_of_nonneg j0
  rcases hv with rfl | rfl | rfl | rfl
  · exact q room _ sx bg3 (Nat.le_refl _)
  · exact q room _ sx bg3 (Nat.le_refl _)
  · exact q 0 _ sx bg3 (Nat.zero_le _)
  · have := q j.toNat _ sx bg3 (by omega)
    rw [ej] at this
    exact this
def sp__law_purses : Sp := fun vs H Q _ => ∃ (b c : Addr) (m : Nat), vs = [.ref b, .int (m : Int)] ∧ BagAt H b c ∧ 0 < m ∧ m ≤ 100 ∧ ∀ v H' (ps : List (Int × Int)), Sx (S1 b) H H' → BagAt H' b c → Tv H' v (.tuple (ps.map prD)) → ps.length ≤ 2 → (∀ p ∈ ps, (0 ≤ p.1 ∧ p.1 ≤ 100) ∧ 0 ≤ p.2 ∧ p.2 ≤ 2) → Q v H'
theorem c__law_purses (T : Txt K mg) : Cal P w K mg base 3 "_law_purses" (sp__law_purses) [] := by
  refine cal_of T.d__law_purses sc__law_purses (fun vs H Q E h => by first | (obtain ⟨_, rfl, _⟩ := h; rfl) | (obtain ⟨_, _, rfl, _⟩ := h; rfl) | (obtain ⟨_, _, _, rfl, _⟩ := h; rfl) | (obtain ⟨_, _, _, _, rfl, _⟩ := h; rfl) | (obtain ⟨_, _, _, _, _, rfl, _⟩ := h; rfl) | (obtain ⟨_, _, _, _, _, _, rfl, _⟩ := h; rfl) | (obtain ⟨_, _, _, _, _, _, _, rfl, _⟩ := h; rfl) | (obtain ⟨_, _, _, _, _, _, _, _, rfl, _⟩ := h; rfl) | (obtain ⟨_, _, _, _, _, _, _, _, _, rfl, _⟩ := h; rfl) | (obtain ⟨_, _, _, _, _, _, _, _, _, _, rfl, _⟩ := h; rfl) | (obtain ⟨_, _, _, _, _, _, _, _, _, _, _, rfl, _⟩ := h; rfl) | (obtain ⟨_, _, _, _, _, _, _, _, _, _, _, _, rfl, _⟩ := h; rfl)) bi__law_purses (fun f cdv A outer s H vs Q E hr hsp => ?_)
  have hu := hu_of hr
  have hu64 := hr.units
  have hu2 := hu2_of hr
  have hu80 := hu80_of hr
  have nd := sc__law_purses.nd
  refine ⟨_, (pss_cons (ps_set (i := 2) nd rfl (by first | exact Or.inl rfl | exact Or.inr rfl) (pe_c (c__law_some T) hr (by decide) rfl (pa_cons (pv 0) (pa_cons (pe_lst (pa_cons pe_int (pa_cons pe_int (pa_cons pe_int (pa_cons pe_int (pa_cons pe_int pa_nil)))))) pa_nil))))
    (pss_one (ps_ret (pe_callTy (cr_tuple (K := K) rfl) (by rfl) T.b_tuple (by decide +kernel) (pa_cons (pe_lc (own := [("_law_turn", 3)]) rfl nd (pi_range1 (by rfl) T.b_range (pa_cons (pv 2) pa_nil)) (blkOk_by (own := [("_law_turn", 3)]) (N := n__law_purses) (sc := defScope s__law_purses) (by decide +kernel)) (fun _ _ _ _ _ => (pg_name (i := 3) nd rfl (by first | exact Or.inl rfl | exact Or.inr rfl))) (fun _ _ _ _ _ => pts_nil) (fun _ _ _ _ _ => (pe_tup (pa_cons (pe_op op_add pe_int (pe_c (c__law_take T) hr (by decide) rfl (pa_cons (pv 0) (pa_cons (pv 1) pa_nil)))) (pa_cons (pe_c (c__law_some T) hr (by decide) rfl (pa_cons (pv 0) (pa_cons (pe_lst (pa_cons pe_int (pa_cons pe_int (pa_cons pe_int (pa_cons pe_int (pa_cons pe_int pa_nil)))))) pa_nil))) pa_nil))))) pa_nil))))), ?_⟩
  obtain ⟨b, c, m, rfl, bg, m0, m1, q⟩ := hsp
  refine ⟨_, rfl, by show 5 ≤ sizeLine; decide, fun p hp => ?_⟩
  have k1 : Same H (upd H p (.lst [.int 1, .int 0, .int 1, .int 1, .int 2])) := Same.new hp
  refine ⟨b, c, p, _, rfl, bg.m k1, upd_same, fun z => by subst z; exact bg.there.1 hp, by simp, by simp, fun v H1 s1 bg1 hv => ?_⟩
  obtain ⟨k, rfl, hk⟩ : ∃ k : Nat, v = .int (k : Int) ∧ k ≤ 2 := by
    simp only [List.mem_cons, List.not_mem_nil, or_false] at hv
    rcases hv with rfl | rfl | rfl | rfl | rfl
    · exact ⟨1, rfl, by omega⟩
    · exact ⟨0, rfl, by omega⟩
    · exact ⟨1, rfl, by omega⟩
    · exact ⟨1, rfl, by omega⟩
    · exact ⟨2, rfl, by omega⟩
  have s01 := (same_sx k1).trans s1
  refine ⟨_, rfl, _, rfl, by omega, by omega, fun D hD => ?_⟩
  have et : ((k : Int)).toNat = k := rfl
  rw [et]
  have th1 := bg1.there
  refine lc_gen (walk_range (lo := 0) (n := k)) hD (S1 b) (fun a z => by cases (show a = b from z); exact th1.1) (fun H => BagAt H b c) bg1 (fun H D' o hD' x => x.upd (fun z => by subst z; exact th1.1 hD') (fun z => by subst z; exact th1.2 hD')) (fun _ _ _ => trivial) (fun H H' x s => x.tk s) (fun _ => true)
    (fun _ y H => ∃ pr : Int × Int, Tv H y (prD pr) ∧ (0 ≤ pr.1 ∧ pr.1 ≤ 100) ∧ 0 ≤ pr.2 ∧ pr.2 ≤ 2) (fun i y H H' k ⟨pr, t, r⟩ => ⟨pr, t.m k, r⟩) (by omega) (fun i x H2 H' hi s bg2 hy N R _ r' => ?_) (fun H2 ys s2 bg2 e2 t2 => ?_)
  · obtain ⟨rfl, rfl⟩ := hy
    refine ⟨rfl, yesT ⟨_, rfl, _, rfl, b, c, _, rfl, bg2, by omega, by omega, fun j H3 s3 bg3 j0 j1 => ⟨_, _, rfl, rfl, _, rfl, by show 5 ≤ sizeLine; decide, fun p4 hp4 => ?_⟩⟩⟩
    have k4 : Same H3 (upd H3 p4 (.lst [.int 0, .int 0, .int 1, .int 2, .int 1])) := Same.new hp4
    refine ⟨b, c, p4, _, rfl, bg3.m k4, upd_same, fun z => by subst z; exact bg3.there.1 hp4, by simp, by simp, fun v H5 s5 bg5 hv => ?_⟩
    obtain ⟨k2, rfl, hk2⟩ : ∃ k2 : Int, v = .int k2 ∧ 0 ≤ k2 ∧ k2 ≤ 2 := by
      simp only [List.mem_cons, List.not_mem_nil, or_false] at hv
      rcases hv with rfl | rfl | rfl | rfl | rfl
      · exact ⟨0, rfl, by omega⟩
      · exact ⟨0, rfl, by omega⟩
      · exact ⟨1, rfl, by omega⟩
      · exact ⟨2, rfl, by omega⟩
      · exact ⟨1, rfl, by omega⟩
    refine ⟨by show 2 ≤ sizeLine; decide, fun p6 hp6 => ?_⟩
    have k6 : Same H5 (upd H5 p6 (.tup [.int (1 + j), .int k2])) := Same.new hp6
    exact r' _ _ (((s3.trans (same_sx k4)).trans s5).trans (same_sx k6)) (bg5.m k6) rfl ⟨(1 + j, k2), .tup upd_same (.cons (.int _) (.cons (.int _) .nil)), ⟨by show 0 ≤ 1 + j; omega, by show 1 + j ≤ 100; omega⟩, hk2⟩
  · rw [flt_true] at t2
    have aux : ∀ {l : List Nat} {ys : List V}, Paired (fun _ y => ∃ pr : Int × Int, Tv H2 y (prD pr) ∧ (0 ≤ pr.1 ∧ pr.1 ≤ 100) ∧ 0 ≤ pr.2 ∧ pr.2 ≤ 2) l ys → ∃ ps : List (Int × Int), TvAll H2 ys (ps.map prD) ∧ ps.length = l.length ∧ ∀ p ∈ ps, (0 ≤ p.1 ∧ p.1 ≤ 100) ∧ 0 ≤ p.2 ∧ p.2 ≤ 2 := by
      intro l ys h
      induction h with
      | nil => exact ⟨[], .nil, rfl, fun p hp => by cases hp⟩
      | cons h _ ih =>
        obtain ⟨ps, h1, h2, h3⟩ := ih
        obtain ⟨pr, h4, h5⟩ := h
        refine ⟨pr :: ps, .cons h4 h1, by simp [h2], fun p hp => ?_⟩
        rcases List.mem_cons.mp hp with rfl | hp
        · exact h5
        · exact h3 p hp
    obtain ⟨ps, h1, h2, h3⟩ := aux t2
    rw [List.length_range] at h2
    refine ⟨D, ys, rfl, SqL.of e2, fun l hl => ?_⟩
    have k7 : Same H2 (upd H2 l (.tup ys)) := Same.new hl
    exact q _ _ ps ((s01.trans s2).trans (same_sx k7)) (bg2.m k7) (.tup upd_same (h1.m k7.tk)) (by omega) h3
end
end K41
/-! a web of machines and belts, drawn -/
namespace K41
open PySem PySem.Spec PyProof.Rows L2
open C8 (Cal pe_c)
theorem pgu {X : Cx} {K : PySem.W.Frag} (e : X.K = K) {pos : Pos} {es : List Expr} {k : Nat} {t : TGs} {n : Nat} (h : PGs X es t) (hc : X.calm = true := by rfl)
    (hn : (assignEach es X.env).length = n := by rfl) (hst : (assignEach es X.env).findIdx? (·.1) = none := by rfl) : PG X (.Tuple es k pos) (gUnl K n t) := by
  subst e; exact pg_unl hc h hn hst
/-- a hall, all but its ranks -/
structure Hall.Web (h : Hall) : Prop where
  n1 : 1 ≤ h.ms.length
  n4 : h.ms.length ≤ 4
  b5 : h.bs.length ≤ 5
  nd : h.names.Nodup
  srt : PyProof.Rows.sortedS h.names = true
  ends : ∀ b ∈ h.bs, b.a ∈ h.names ∧ b.b ∈ h.names
  room : ∀ b ∈ h.bs, b.first ≤ b.room ∧ b.room ≤ 100
  small : ∀ m ∈ h.ms, (m.tm.natAbs ≤ 1000 ∧ 0 ≤ m.tm) ∧ m.ps.length ≤ 3 ∧ ∀ p ∈ m.ps, p.1.natAbs ≤ 1000 ∧ 0 ≤ p.1 ∧ p.2.natAbs ≤ 1000 ∧ 0 ≤ p.2
  str : ∀ n ∈ h.names, PyData.strOk n = true ∧ (reprText n).length ≤ 60
  fl : PyData.strOk h.fl = true ∧ (reprText h.fl).length ≤ 60
theorem Hall.Web.lo {h : Hall} (o : h.Web) : h.Lo := ⟨o.n4, o.b5, o.nd, fun b hb => (o.room b hb).1, o.ends, o.str⟩
theorem Hall.Web.ok {h : Hall} (o : h.Web) (rk : ∃ r, Ranked h r) : h.Ok := ⟨o.n1, o.n4, o.b5, o.nd, o.srt, o.ends, o.room, o.small, o.str, o.fl, rk⟩
theorem paired_perm {α β : Type} {R : α → β → Prop} {ys zs : List β} (p : ys.Perm zs) : ∀ {xs : List α}, Paired R xs ys → ∃ xs', xs'.Perm xs ∧ Paired R xs' zs := by
  induction p with
  | nil =>
    intro xs h
    cases h
    exact ⟨[], .nil, .nil⟩
  | cons y _ ih =>
    intro xs h
    cases h with
    | cons h1 h2 =>
      obtain ⟨xs', p1, h3⟩ := ih h2
      exact ⟨_ :: xs', p1.cons _, .cons h1 h3⟩
  | swap y z l =>
    intro xs h
    cases h with
    | cons h1 h2 =>
      cases h2 with
      | cons h3 h4 => exact ⟨_, List.Perm.swap _ _ _, .cons h3 (.cons h1 h4)⟩
  | trans _ _ ih1 ih2 =>
    intro xs h
    obtain ⟨xs1, p1, h1⟩ := ih1 h
    obtain ⟨xs2, p2, h2⟩ := ih2 h1
    exact ⟨xs2, p2.trans p1, h2⟩
/-! ### machines sorted -/
theorem prD_alike : ∀ l k : List (Int × Int), PySem.W.alikeAll (l.map prD) (k.map prD) = true
  | [], _ => by simp only [List.map_nil, PySem.W.alikeAll]
  | _ :: _, [] => by simp only [List.map_nil, List.map_cons, PySem.W.alikeAll]
  | x :: l, y :: k => by
    simp only [List.map_cons, PySem.W.alikeAll, prD, PySem.W.alike, Bool.and_self, Bool.true_and]
    exact prD_alike l k
theorem mach_alike (a b : Mach) : PySem.W.alike a.py b.py = true := by
  simp only [Mach.py, PySem.W.alike, PySem.W.alikeAll, prD_alike, Bool.and_self]
theorem mach_le {a b : Mach} (e : PySem.W.dataLe false (fun d : PyData => d) a.py b.py = true) : leS a.nm b.nm := by
  rw [PySem.W.dataLe_eq] at e
  simp only [cond_false, Bool.not_eq_true'] at e
  intro c
  have ne : PyData.eqv (.str b.nm) (.str a.nm) = false := by
    simp only [PyData.eqv, beq_eq_false_iff_ne]
    intro z
    rw [z] at c
    exact absurd c (List.lt_irrefl _)
  have h1 := PySem.W.dataLt_all_no (x := .str b.nm) (y := .str a.nm) (xs := [.int b.tm, .tuple (b.ps.map prD)]) (ys := [.int a.tm, .tuple (a.ps.map prD)]) (by simp only [PySem.W.alike]) ne
  have h2 : PySem.W.dataLt b.py a.py = PySem.W.dataLt (.str b.nm) (.str a.nm) := h1
  rw [h2, PySem.W.dataLt_str] at e
  exact (decide_eq_false_iff_not.mp e) c
def srtM (l : List Mach) : List Mach := l.mergeSort fun a b => PySem.W.dataLe false (fun d : PyData => d) a.py b.py
theorem srtM_map (l : List Mach) : (l.map Mach.py).mergeSort (PySem.W.dataLe false fun d => d) = (srtM l).map Mach.py := by
  rw [srtM, List.map_mergeSort]
  intro a _ b _
  rfl
theorem srtM_sorted (l : List Mach) : sortedS ((srtM l).map Mach.nm) = true := by
  have t : PySem.W.TotalLe fun a b : Mach => PySem.W.dataLe false (fun d : PyData => d) a.py b.py := by
    have q : PySem.W.TotalLe (PySem.W.dataLe false (fun d : PyData => d)) := PySem.W.sortLe_total _ _ _
    exact ⟨fun a b c => q.trans _ _ _, fun a b => q.total _ _⟩
  refine sortedS_of_pairwise _ (List.pairwise_map.mpr ((PySem.W.sort_pairwise t l).imp fun {a b} e => ?_))
  rw [ltCps_eq, decide_eq_false_iff_not]
  exact mach_le e
/-! ### the lists that grow -/
structure Wb (H : Hp) (F B J N : Addr) (fms : List Mach) (bs : List Belt) (jn ns : List Str) : Prop where
  f : ∃ fv, H F = some (.lst fv) ∧ TvAll H fv (fms.map Mach.py)
  b : ∃ bv, H B = some (.lst bv) ∧ TvAll H bv (bs.map Belt.py)
  j : H J = some (.lst (jn.map .str))
  n : H N = some (.lst (ns.map .str))
structure Apart (b F B J N : Addr) : Prop where
  fb : F ≠ B
  fj : F ≠ J
  fn : F ≠ N
  bj : B ≠ J
  bn : B ≠ N
  jn : J ≠ N
  f0 : F ≠ b
  b0 : B ≠ b
  j0 : J ≠ b
  n0 : N ≠ b
section
variable {H H' : Hp} {b F B J N : Addr} {fms : List Mach} {bs : List Belt} {jn ns : List Str}
theorem Wb.m (x : Wb H F B J N fms bs jn ns) (a : Apart b F B J N) (s : Sx (S1 b) H H') (k : TK H H') : Wb H' F B J N fms bs jn ns := by
  obtain ⟨fv, f1, f2⟩ := x.f
  obtain ⟨bv, b1, b2⟩ := x.b
  exact ⟨⟨fv, s _ _ a.f0 f1, f2.m k⟩, ⟨bv, s _ _ a.b0 b1, b2.m k⟩, s _ _ a.j0 x.j, s _ _ a.n0 x.n⟩
theorem Wb.appF (x : Wb H F B J N fms bs jn ns) (a : Apart b F B J N) {m : Mach} {v : V} {fv : List V} (hf : H F = some (.lst fv)) (t : Tv H v m.py) : Wb (upd H F (.lst (fv ++ [v]))) F B J N (fms ++ [m]) bs jn ns := by
  obtain ⟨fv', f1, f2⟩ := x.f
  rw [hf] at f1
  cases f1
  obtain ⟨bv, b1, b2⟩ := x.b
  have k : TK H (upd H F (.lst (fv ++ [v]))) := TK.lst hf
  exact ⟨⟨_, upd_same, by rw [List.map_append]; exact (f2.m k).append (.cons (t.m k) .nil)⟩, ⟨bv, by rw [upd_ne (Ne.symm a.fb)]; exact b1, b2.m k⟩, by rw [upd_ne (Ne.symm a.fj)]; exact x.j, by rw [upd_ne (Ne.symm a.fn)]; exact x.n⟩
theorem Wb.appB (x : Wb H F B J N fms bs jn ns) (a : Apart b F B J N) {m : Belt} {v : V} {bv : List V} (hb : H B = some (.lst bv)) (t : Tv H v m.py) : Wb (upd H B (.lst (bv ++ [v]))) F B J N fms (bs ++ [m]) jn ns := by
  obtain ⟨fv, f1, f2⟩ := x.f
  obtain ⟨bv', b1, b2⟩ := x.b
  rw [hb] at b1
  cases b1
  have k : TK H (upd H B (.lst (bv ++ [v]))) := TK.lst hb
  exact ⟨⟨fv, by rw [upd_ne a.fb]; exact f1, f2.m k⟩, ⟨_, upd_same, by rw [List.map_append]; exact (b2.m k).append (.cons (t.m k) .nil)⟩, by rw [upd_ne (Ne.symm a.bj)]; exact x.j, by rw [upd_ne (Ne.symm a.bn)]; exact x.n⟩
theorem Wb.appJ (x : Wb H F B J N fms bs jn ns) (a : Apart b F B J N) {m : Str} : Wb (upd H J (.lst (jn.map .str ++ [.str m]))) F B J N fms bs (jn ++ [m]) ns := by
  obtain ⟨fv, f1, f2⟩ := x.f
  obtain ⟨bv, b1, b2⟩ := x.b
  have k : TK H (upd H J (.lst (jn.map .str ++ [.str m]))) := TK.lst x.j
  exact ⟨⟨fv, by rw [upd_ne a.fj]; exact f1, f2.m k⟩, ⟨bv, by rw [upd_ne a.bj]; exact b1, b2.m k⟩, by rw [upd_same, List.map_append]; rfl, by rw [upd_ne (Ne.symm a.jn)]; exact x.n⟩
end
def Belt.fits (m : Belt) (jn : List Str) : Prop := (m.a ∈ jn ∧ m.b ∈ jn) ∧ m.first ≤ m.room ∧ m.room ≤ 100
def Mach.fits (m : Mach) : Prop := (m.tm.natAbs ≤ 1000 ∧ 0 ≤ m.tm) ∧ m.ps.length ≤ 3 ∧ ∀ p ∈ m.ps, p.1.natAbs ≤ 1000 ∧ 0 ≤ p.1 ∧ p.2.natAbs ≤ 1000 ∧ 0 ≤ p.2
theorem Paired.map_refl : ∀ l : List Str, Paired (fun (s : Str) (v : V) => v = .str s) l (l.map V.str)
  | [] => .nil
  | a :: l => .cons rfl (Paired.map_refl l)
theorem strs_perm {ys : List V} {l : List Str} (p : ys.Perm (l.map .str)) : ∃ ns : List Str, ns.Perm l ∧ ys = ns.map .str := by
  have h0 := Paired.map_refl l
  obtain ⟨ns, p1, h1⟩ := paired_perm p.symm h0
  exact ⟨ns, p1, Paired.eqmap h1⟩
theorem iRng1_any {te : TE} {σ : L2.St} {H : Hp} {R : It → Hp → Prop} (G : Nat → Hp → Prop) (h : ∀ Q : V → Hp → Prop, (∀ (k : Nat) H', G k H' → Q (.int (k : Int)) H') → te σ H Q) (hb : ∀ k H', G k H' → k ≤ 100000) (hk : ∀ k H', G k H' → R (Itr 0 k) H') : iRng1 (tCons te tNil) σ H R := h _ fun k H' g => ⟨(k : Int), rfl, by omega, by have := hb k H' g; omega, hk k H' g⟩
theorem tFor_rng {te : TE} {g : TG} {tb : TS} {D : Ends} {σ : L2.St} {H : Hp} (G : Nat → Hp → Prop) (h : ∀ Q : V → Hp → Prop, (∀ (k : Nat) H', G k H' → Q (.int (k : Int)) H') → te σ H Q) (hb : ∀ k H', G k H' → k ≤ 100000)
    (hk : ∀ k H', G k H' → ∃ W : Nat → Nat → L2.St → Hp → Prop, (∃ m, W 0 m σ H') ∧ ∀ i m σ H, W i m σ H → ((Itr 0 k).stop i H ∧ D.nx σ H) ∨ ((Itr 0 k).go i H ∧ ∃ N : L2.St → Hp → Prop, (∀ σ' H', N σ' H' → ∃ m', m' < m ∧ W (i + 1) m' σ' H') ∧ ∀ x H', (Itr 0 k).yld i H x H' → g x σ H' fun σ2 H2 => tb { D with nx := N, ct := N, bk := D.nx } σ2 H2)) :
    tFor (iRng1 (tCons te tNil)) g tb D σ H := iRng1_any G h hb hk
theorem mach_sm {m : Mach} (h : PyData.strOk m.nm = true) : Sm m.py 4 := by
  refine sm_tuple (k := 3) fun d hd => ?_
  simp only [List.mem_cons, List.not_mem_nil, or_false] at hd
  rcases hd with rfl | rfl | rfl
  · exact (sm_str h).mono (by decide)
  · exact sm_int.mono (by decide)
  · refine sm_tuple (k := 2) fun d hd => ?_
    obtain ⟨p, _, rfl⟩ := List.mem_map.mp hd
    exact sm_tuple (two_mem sm_int sm_int)
def allN : List Str := ["cap", "box", "wash", "sort", "lab", "a", "tray", "z"]
section
variable {P : Program} {w : World} {K : PySem.W.Frag} {mg : Str → Option Value} {base : Heap}
def sp__law_web : Sp := fun vs H Q _ => ∃ (b c : Addr) (m : Nat) (most : Nat), vs = [.ref b, .int (m : Int), .int (most : Int)] ∧ BagAt H b c ∧ m ≤ 3 ∧ 0 < most ∧ most ≤ 100 ∧ ∀ (v : V) (H' : Hp) (h : Hall), Sx (S1 b) H H' → BagAt H' b c → Tv H' v h.py → h.Web → Q v H'
theorem c__law_web (T : Txt K mg) : Cal P w K mg base 4 "_law_web" (sp__law_web) [] := by
  refine cal_of T.d__law_web sc__law_web (fun vs H Q E h => by first | (obtain ⟨_, rfl, _⟩ := h; rfl) | (obtain ⟨_, _, rfl, _⟩ := h; rfl) | (obtain ⟨_, _, _, rfl, _⟩ := h; rfl) | (obtain ⟨_, _, _, _, rfl, _⟩ := h; rfl) | (obtain ⟨_, _, _, _, _, rfl, _⟩ := h; rfl) | (obtain ⟨_, _, _, _, _, _, rfl, _⟩ := h; rfl) | (obtain ⟨_, _, _, _, _, _, _, rfl, _⟩ := h; rfl) | (obtain ⟨_, _, _, _, _, _, _, _, rfl, _⟩ := h; rfl) | (obtain ⟨_, _, _, _, _, _, _, _, _, rfl, _⟩ := h; rfl) | (obtain ⟨_, _, _, _, _, _, _, _, _, _, rfl, _⟩ := h; rfl) | (obtain ⟨_, _, _, _, _, _, _, _, _, _, _, rfl, _⟩ := h; rfl) | (obtain ⟨_, _, _, _, _, _, _, _, _, _, _, _, rfl, _⟩ := h; rfl)) bi__law_web (fun f cdv A outer s H vs Q E hr hsp => ?_)
  have hu := hu_of hr
  have hu64 := hr.units
  have hu2 := hu2_of hr
  have hu80 := hu80_of hr
  have nd := sc__law_web.nd
  refine ⟨_, (pss_cons (ps_set (i := 3) nd rfl (by first | exact Or.inl rfl | exact Or.inr rfl) (pe_slice (sl_listK (K := K) rfl) (pe_c (c__law_mixed T) hr (by decide) rfl (pa_cons (pv 0) (pa_cons (pe_lst (pa_cons pe_str (pa_cons pe_str (pa_cons pe_str (pa_cons pe_str (pa_cons pe_str (pa_cons pe_str (pa_cons pe_str (pa_cons pe_str pa_nil))))))))) pa_nil))) po_none (po_some (pv 1))))
    (pss_cons (ps_par (i := 4) (j := 5) (by rfl) nd rfl rfl (by decide) rfl rfl (pa_cons (pe_c (c__law_some T) hr (by decide) rfl (pa_cons (pv 0) (pa_cons (pe_lst (pa_cons pe_str (pa_cons pe_str (pa_cons pe_str pa_nil)))) pa_nil))) (pa_cons (pe_op op_add pe_int (pe_c (c__law_take T) hr (by decide) rfl (pa_cons (pv 0) (pa_cons pe_int pa_nil)))) pa_nil)) (by rfl))
    (pss_cons (ps_par3 (i := 6) (j := 7) (l := 8) (by rfl) nd rfl rfl rfl (by decide) (by decide) (by decide) rfl rfl rfl (pa_cons (pe_lst (pa_cons (pe_tup (pa_cons (pv 4) (pa_cons (pv 5) (pa_cons (pe_tup pa_nil) pa_nil)))) pa_nil)) (pa_cons (pe_lst pa_nil) (pa_cons (pe_lst (pa_cons (pv 4) pa_nil)) pa_nil))) (by rfl))
    (pss_cons (ps_for PassesOwn.never rfl (pil (K := K) rfl (pv 3)) (pg_name (i := 9) nd rfl (by first | exact Or.inl rfl | exact Or.inr rfl)) (pss_cons (ps_set (i := 10) nd rfl (by first | exact Or.inl rfl | exact Or.inr rfl) (pe_op op_add pe_int (pe_c (c__law_take T) hr (by decide) rfl (pa_cons (pv 0) (pa_cons (pe_op op_add (pv 5) (pe_callTy call_int1 (by rfl) T.b_int (by decide +kernel) (pa_cons (pe_cmpR op_eq (pe_c (c__law_take T) hr (by decide) rfl (pa_cons (pv 0) (pa_cons pe_int pa_nil))) pe_int (nomark _)) pa_nil))) pa_nil)))))
    (pss_cons (ps_expr (pe_bm PySem.F.plainAttrs_list PySem.F.slot_list_append PySem.F.type_list_append mt_append (pv 6) (pa_cons (pe_tup (pa_cons (pv 9) (pa_cons (pv 10) (pa_cons (pe_c (c__law_purses T) hr (by decide) rfl (pa_cons (pv 0) (pa_cons (pv 2) pa_nil))) pa_nil)))) pa_nil)))
    (pss_cons (ps_par (i := 11) (j := 12) (by rfl) nd rfl rfl (by decide) rfl rfl (pa_cons (pe_op op_add pe_int (pe_c (c__law_take T) hr (by decide) rfl (pa_cons (pv 0) (pa_cons pe_int pa_nil)))) (pa_cons (pe_c (c__law_some T) hr (by decide) rfl (pa_cons (pv 0) (pa_cons (pv 8) pa_nil))) pa_nil)) (by rfl))
    (pss_cons (ps_set (i := 13) nd rfl (by first | exact Or.inl rfl | exact Or.inr rfl) (pe_c (c__law_first T) hr (by decide) rfl (pa_cons (pv 0) (pa_cons (pv 11) pa_nil))))
    (pss_cons (ps_expr (pe_bm PySem.F.plainAttrs_list PySem.F.slot_list_append PySem.F.type_list_append mt_append (pv 7) (pa_cons (pe_ifExp (pt_cmpR op_gt (pe_c (c__law_take T) hr (by decide) rfl (pa_cons (pv 0) (pa_cons pe_int pa_nil))) pe_int (nomark _)) (pe_tup (pa_cons (pv 9) (pa_cons (pv 12) (pa_cons (pv 11) (pa_cons (pv 13) pa_nil))))) (pe_tup (pa_cons (pv 12) (pa_cons (pv 9) (pa_cons (pv 11) (pa_cons (pv 13) pa_nil)))))) pa_nil)))
    (pss_one (ps_expr (pe_bm PySem.F.plainAttrs_list PySem.F.slot_list_append PySem.F.type_list_append mt_append (pv 8) (pa_cons (pv 9) pa_nil))))))))))
    (pss_cons (ps_for PassesOwn.never rfl (pi_range1 (by rfl) T.b_range (pa_cons (pe_ifExp (pt_cmpR op_gt (pv 1) pe_int (nomark _)) (pe_c (c__law_some T) hr (by decide) rfl (pa_cons (pv 0) (pa_cons (pe_lst (pa_cons pe_int (pa_cons pe_int (pa_cons pe_int (pa_cons pe_int pa_nil))))) pa_nil))) pe_int) pa_nil)) (pg_name (i := 14) nd rfl (by first | exact Or.inl rfl | exact Or.inr rfl)) (pss_cons (ps_asg (pe_slice (sl_listK (K := K) rfl) (pe_c (c__law_mixed T) hr (by decide) rfl (pa_cons (pv 0) (pa_cons (pv 8) pa_nil))) po_none (po_some pe_int)) (pgu (K := K) (n := 2) rfl (pgs_cons (pg_name (i := 15) nd rfl (by first | exact Or.inl rfl | exact Or.inr rfl)) (pgs_cons (pg_name (i := 16) nd rfl (by first | exact Or.inl rfl | exact Or.inr rfl)) pgs_nil))))
    (pss_cons (ps_set (i := 11) nd rfl (by first | exact Or.inl rfl | exact Or.inr rfl) (pe_op op_add pe_int (pe_c (c__law_take T) hr (by decide) rfl (pa_cons (pv 0) (pa_cons pe_int pa_nil)))))
    (pss_one (ps_expr (pe_bm PySem.F.plainAttrs_list PySem.F.slot_list_append PySem.F.type_list_append mt_append (pv 7) (pa_cons (pe_tup (pa_cons (pv 15) (pa_cons (pv 16) (pa_cons (pv 11) (pa_cons (pe_c (c__law_first T) hr (by decide) rfl (pa_cons (pv 0) (pa_cons (pv 11) pa_nil))) pa_nil))))) pa_nil)))))))
    (pss_one (ps_ret (pe_tup (pa_cons (pe_callTy (cr_tuple (K := K) rfl) (by rfl) T.b_tuple (by decide +kernel) (pa_cons (pe_callB (cr_sortD hu80) (by rfl) T.b_sorted (by decide +kernel) (pa_cons (pv 6) pa_nil)) pa_nil)) (pa_cons (pe_callTy (cr_tuple (K := K) rfl) (by rfl) T.b_tuple (by decide +kernel) (pa_cons (pe_c (c__law_mixed T) hr (by decide) rfl (pa_cons (pv 0) (pa_cons (pv 7) pa_nil))) pa_nil)) (pa_cons (pv 4) pa_nil))))))))))), ?_⟩
  obtain ⟨b, c, m, most, rfl, bg, hm3, hmo0, hmo1, q⟩ := hsp
  refine ⟨_, rfl, by show 8 ≤ sizeLine; decide, fun pL hpL => ?_⟩
  have k0 : Same H (upd H pL (.lst (allN.map .str))) := Same.new hpL
  have th := bg.there
  refine ⟨b, c, pL, allN.map .str, rfl, bg.m k0, upd_same, fun z => by subst z; exact th.1 hpL, by decide, fun pM H1 ys s1 bg1 hpM eM perm => ⟨_, rfl, _, rfl, pM, ys, rfl, SqL.of eM, fun N hN => ?_⟩⟩
  obtain ⟨nsA, pA, rfl⟩ := strs_perm perm
  have lA : nsA.length = 8 := pA.length_eq
  have ecut : cutV (nsA.map V.str) none (some (m : Int)) = (nsA.take m).map V.str := by
    unfold cutV
    rw [HT.sIx_none, HT.sIx_nat, List.length_map, lA, List.drop_zero, Nat.sub_zero, Nat.min_eq_left (by omega), List.map_take]
  rw [ecut]
  have kN : Same H1 (upd H1 N (.lst ((nsA.take m).map V.str))) := Same.new hN
  have bgN := bg1.m kN
  have eN : (upd H1 N (.lst ((nsA.take m).map V.str))) N = some (.lst ((nsA.take m).map V.str)) := upd_same
  have thN := bg1.there
  have Nb : N ≠ b := fun z => by subst z; exact thN.1 hN
  have sN := ((same_sx k0).trans s1).trans (same_sx kN)
  have hNH : H N = none := by
    cases q0 : H N with
    | none => rfl
    | some o =>
      have := ((same_sx k0).trans s1) N o Nb q0
      rw [hN] at this
      cases this
  generalize upd H1 N (.lst ((nsA.take m).map V.str)) = H2 at bgN eN sN ⊢
  have lns : (nsA.take m).length = m := by rw [List.length_take]; omega
  have nsub : ∀ n ∈ nsA.take m, n ∈ allN := fun n hn => pA.mem_iff.mp (List.mem_of_mem_take hn)
  have nnd : (nsA.take m).Nodup := List.Sublist.nodup (List.take_sublist _ _) (pA.nodup_iff.mpr (by decide +kernel))
  generalize nsA.take m = ns at eN lns nsub nnd ⊢
  -- filler, pace
  refine ⟨_, rfl, by show 3 ≤ sizeLine; decide, fun pF hpF => ?_⟩
  have kF : Same H2 (upd H2 pF (.lst [.str "fill", .str "m", .str "fill"])) := Same.new hpF
  refine ⟨b, c, pF, _, rfl, bgN.m kF, upd_same, fun z => by subst z; exact bgN.there.1 hpF, by simp, by simp, fun vf H3 s3 bg3 hvf => ⟨_, rfl, b, c, 6, rfl, bg3, by decide, by decide, fun i H4 s4 bg4 i0 i1 => ⟨_, _, rfl, rfl, _, _, rfl, ?_⟩⟩⟩
  obtain ⟨fl, rfl, hfl⟩ : ∃ fl : Str, vf = .str fl ∧ (fl = "fill" ∨ fl = "m") := by
    simp only [List.mem_cons, List.not_mem_nil, or_false] at hvf
    rcases hvf with rfl | rfl | rfl
    · exact ⟨_, rfl, .inl rfl⟩
    · exact ⟨_, rfl, .inr rfl⟩
    · exact ⟨_, rfl, .inl rfl⟩
  have s24 := ((same_sx kF).trans s3).trans s4
  have sH4 := sN.trans s24
  have eN4 := s24 N _ Nb eN
  have flN : fl ∉ ns := fun z => by
    have := nsub fl z
    rcases hfl with rfl | rfl
    · exact absurd this (by decide +kernel)
    · exact absurd this (by decide +kernel)
  have flok : PyData.strOk fl = true ∧ (reprText fl).length ≤ 60 := by
    rcases hfl with rfl | rfl
    · exact ⟨by decide +kernel, by decide +kernel⟩
    · exact ⟨by decide +kernel, by decide +kernel⟩
  have allok : ∀ n ∈ allN, PyData.strOk n = true ∧ (reprText n).length ≤ 60 := by
    have h1 : allN.all (fun n => PyData.strOk n && decide ((reprText n).length ≤ 60)) = true := by decide +kernel
    intro n hn
    have := List.all_eq_true.mp h1 n hn
    rw [Bool.and_eq_true, decide_eq_true_eq] at this
    exact this
  -- the three lists
  refine ⟨_, rfl, _, rfl, by show 0 ≤ sizeLine; decide, fun p5 hp5 => ⟨by show 3 ≤ sizeLine; decide, fun p6 hp6 => ⟨by show 1 ≤ sizeLine; decide, fun F hF => ⟨by show 0 ≤ sizeLine; decide, fun B hB => ⟨_, rfl, by show 1 ≤ sizeLine; decide, fun J hJ => ⟨_, _, _, rfl, ?_⟩⟩⟩⟩⟩⟩
  have k5 : Same H4 (upd H4 p5 (.tup [])) := Same.new hp5
  have k6 : Same _ (upd (upd H4 p5 (.tup [])) p6 (.tup [.str fl, .int (2 + i), .ref p5])) := Same.new hp6
  have k7 : Same _ (upd (upd (upd H4 p5 (.tup [])) p6 (.tup [.str fl, .int (2 + i), .ref p5])) F (.lst [.ref p6])) := Same.new hF
  have k8 : Same _ (upd (upd (upd (upd H4 p5 (.tup [])) p6 (.tup [.str fl, .int (2 + i), .ref p5])) F (.lst [.ref p6])) B (.lst [])) := Same.new hB
  have k9 : Same _ (upd (upd (upd (upd (upd H4 p5 (.tup [])) p6 (.tup [.str fl, .int (2 + i), .ref p5])) F (.lst [.ref p6])) B (.lst [])) J (.lst [.str fl])) := Same.new hJ
  have k49 := (((k5.trans k6).trans k7).trans k8).trans k9
  have k46 := k5.trans k6
  have k48 := (k46.trans k7).trans k8
  have th4 := bg4.there
  have apart : Apart b F B J N := by
    have hF7 := upd_same (H := upd (upd H4 p5 (.tup [])) p6 (.tup [.str fl, .int (2 + i), .ref p5])) (a := F) (o := .lst [.ref p6])
    have hF8 := k8 _ _ hF7
    have hB8 := upd_same (H := upd (upd (upd H4 p5 (.tup [])) p6 (.tup [.str fl, .int (2 + i), .ref p5])) F (.lst [.ref p6])) (a := B) (o := .lst [])
    have hN6 := k46 _ _ eN4
    have hN7 := k7 _ _ hN6
    have hN8 := k8 _ _ hN7
    have b6 : ∃ o, H4 b = some o := Option.ne_none_iff_exists'.mp th4.1
    obtain ⟨ob, hb4⟩ := b6
    refine ⟨fun z => ?_, fun z => ?_, fun z => ?_, fun z => ?_, fun z => ?_, fun z => ?_, fun z => ?_, fun z => ?_, fun z => ?_, Nb⟩
    · rw [← z, hF7] at hB; cases hB
    · rw [← z, hF8] at hJ; cases hJ
    · rw [z, hN6] at hF; cases hF
    · rw [← z, hB8] at hJ; cases hJ
    · rw [z, hN7] at hB; cases hB
    · rw [z, hN8] at hJ; cases hJ
    · rw [z, k46 _ _ hb4] at hF; cases hF
    · rw [z, (k46.trans k7) _ _ hb4] at hB; cases hB
    · rw [z, k48 _ _ hb4] at hJ; cases hJ
  have cF : F ≠ c := fun z => by
    obtain ⟨oc, hc4⟩ := Option.ne_none_iff_exists'.mp th4.2
    rw [z, k46 _ _ hc4] at hF; cases hF
  have cB : B ≠ c := fun z => by
    obtain ⟨oc, hc4⟩ := Option.ne_none_iff_exists'.mp th4.2
    rw [z, (k46.trans k7) _ _ hc4] at hB; cases hB
  have cJ : J ≠ c := fun z => by
    obtain ⟨oc, hc4⟩ := Option.ne_none_iff_exists'.mp th4.2
    rw [z, k48 _ _ hc4] at hJ; cases hJ
  have fresh : ∀ x, H4 x = none → x ≠ b → H x = none := fun x hx xb => by
    cases q0 : H x with
    | none => rfl
    | some o =>
      have := sH4 x o xb q0
      rw [hx] at this
      cases this
  have hFH : H F = none := fresh F (k46.free hF) apart.f0
  have hBH : H B = none := fresh B ((k46.trans k7).free hB) apart.b0
  have hJH : H J = none := fresh J (k48.free hJ) apart.j0
  have t6 := k9 _ _ (k8 _ _ (k7 _ _ (upd_same (H := upd H4 p5 (.tup [])) (a := p6) (o := .tup [.str fl, .int (2 + i), .ref p5]))))
  have t5 := k9 _ _ (k8 _ _ (k7 _ _ (k6 _ _ (upd_same (H := H4) (a := p5) (o := .tup [])))))
  have wb9 : Wb _ F B J N [⟨fl, 2 + i, []⟩] [] [fl] ns := ⟨⟨_, k9 _ _ (k8 _ _ (upd_same (H := upd (upd H4 p5 (.tup [])) p6 (.tup [.str fl, .int (2 + i), .ref p5])) (a := F) (o := .lst [.ref p6]))), .cons (.tup t6 (.cons (.str _) (.cons (.int _) (.cons (.tup t5 .nil) .nil)))) .nil⟩, ⟨_, k9 _ _ upd_same, .nil⟩, upd_same, k49 _ _ eN4⟩
  have bg9 := bg4.m k49
  have s9 := sH4.trans (same_sx k49)
  generalize upd (upd (upd (upd (upd H4 p5 (.tup [])) p6 (.tup [.str fl, .int (2 + i), .ref p5])) F (.lst [.ref p6])) B (.lst [])) J (.lst [.str fl]) = H9 at wb9 bg9 s9 ⊢
  refine ⟨_, rfl, _, rfl, ⟨_, SqL.of wb9.n⟩, ?_⟩
  refine for_it (walk_listL (K := K) (xs := ns.map V.str) (n := m) (by rw [List.length_map, lns])) (fun j σ H' => (∃ o9 o10 o11 o12 o13 o14 o15 o16, σ = [some (.ref b), some (.int (m : Int)), some (.int (most : Int)), some (.ref N), some (.str fl), some (.int (2 + i)), some (.ref F), some (.ref B), some (.ref J), o9, o10, o11, o12, o13, o14, o15, o16]) ∧ Sx (S1 b) H H' ∧ BagAt H' b c ∧
      ∃ (fms : List Mach) (bs : List Belt), Wb H' F B J N fms bs (fl :: ns.take j) ns ∧ fms.map Mach.nm = fl :: ns.take j ∧ (∀ x ∈ fms, x.fits) ∧ bs.length = j ∧ ∀ x ∈ bs, x.fits (fl :: ns.take j))
    ⟨⟨_, _, _, _, _, _, _, _, rfl⟩, s9, bg9, _, _, by simpa using wb9, by simp, fun x hx => by
      simp at hx
      subst hx
      exact ⟨⟨by show (2 + i).natAbs ≤ 1000; omega, by show 0 ≤ 2 + i; omega⟩, by show 0 ≤ 3; decide, fun p hp => by cases hp⟩, rfl, fun x hx => by cases hx⟩
    (fun j σ H' _ p => let ⟨_, _, _, _, _, w, _⟩ := p; SqL.of w.n) (fun j x σ H10 H10' hj p hy => ?_) (fun σ H10 p => ?_)
  · obtain ⟨⟨o9, o10, o11, o12, o13, o14, o15, o16, rfl⟩, s10, bg10, fms, bs, wb10, enm, ffit, lbs, bfit⟩ := p
    obtain ⟨rfl, hx⟩ := hy
    have ej : ns[j]? = some (ns[j]'(by omega)) := List.getElem?_eq_getElem _
    rw [List.getElem?_map, ej] at hx
    cases hx
    have jn1 : (fl :: ns.take j) ++ [ns[j]'(by omega)] = fl :: ns.take (j + 1) := by
      rw [List.take_succ, ej]
      rfl
    have lfms : fms.length = j + 1 := by
      have := congrArg List.length enm
      rw [List.length_map, List.length_cons, List.length_take] at this
      omega
    generalize ns[j]'(by omega) = n at jn1 ⊢
    refine ⟨_, rfl, _, rfl, _, rfl, b, c, 6, rfl, bg10, by decide, by decide, fun q1 H11 s11 bg11 q10 q11 => ⟨rfl, .inr ⟨_, rfl, _, _, rfl, rfl, b, c, _, rfl, bg11, ?_, ?_, fun k H12 s12 bg12 k0 k1 => ⟨_, _, rfl, rfl, ?_⟩⟩⟩⟩
    · split <;> omega
    · split <;> omega
    have kle : k ≤ 8 := by
      split at k1 <;> omega
    have sxA := s11.trans s12
    have wb12 := wb10.m apart sxA (bg10.tk sxA)
    obtain ⟨fv, ef, tf⟩ := wb12.f
    have lfv : fv.length = j + 1 := by rw [tf.lenm, lfms]
    refine ⟨_, rfl, .inl ⟨rfl, _, SqL.of ef⟩, _, rfl, _, rfl, _, rfl, _, rfl, b, c, most, rfl, bg12, hmo0, hmo1, fun vp H13 ps s13 bg13 tp lp bd => ⟨by show 3 ≤ sizeLine; decide, fun p hp => ?_⟩⟩
    have wb13 := wb12.m apart s13 (bg12.tk s13)
    obtain ⟨pp, pxs, rfl, hpp, tpx⟩ := Tv.tup_inv tp
    have kp : Same H13 (upd H13 p (.tup [.str n, .int (1 + k), .ref pp])) := Same.new hp
    have ef13 := s13 F _ apart.f0 ef
    have wb14 := wb13.m apart (same_sx kp) kp.tk
    have ef14 := kp _ _ ef13
    have tm : Tv (upd H13 p (.tup [.str n, .int (1 + k), .ref pp])) (.ref p) (Mach.py ⟨n, 1 + k, ps⟩) := .tup upd_same (.cons (.str _) (.cons (.int _) (.cons (tp.m kp.tk) .nil)))
    have nfit : Mach.fits ⟨n, 1 + k, ps⟩ := ⟨⟨by show (1 + k).natAbs ≤ 1000; omega, by show 0 ≤ 1 + k; omega⟩, by show ps.length ≤ 3; omega, fun x hx => by
      have := bd x hx
      omega⟩
    refine ⟨F, fv, _, rfl, rfl, ef14, smallL (by omega), ?_⟩
    have bg14 := (bg13.m kp).upd (F := F) (o := .lst (fv ++ [.ref p])) apart.f0 cF
    have wb15 := wb14.appF apart ef14 tm
    have s9' : ∀ {X : Hp}, Sx (S1 b) H X → Sx (S1 b) H X := id
    have s15 := (s10.trans ((sxA.trans s13).trans (same_sx kp))).mut (o := .lst (fv ++ [.ref p])) hFH
    generalize upd (upd H13 p (.tup [.str n, .int (1 + k), .ref pp])) F (.lst (fv ++ [.ref p])) = H15 at bg14 wb15 s15 ⊢
    refine ⟨_, rfl, b, c, 4, rfl, bg14, by decide, by decide, fun r H16 s16 bg16 r0 r1 => ⟨_, _, rfl, rfl, _, rfl, _, rfl, b, c, J, _, rfl, bg16, s16 J _ apart.j0 wb15.j, apart.j0, by simp, by rw [List.length_map]; simp only [List.length_cons, List.length_take]; omega, fun vo H16' s16' bg16' hvo => ⟨_, _, rfl, ?_⟩⟩⟩
    obtain ⟨o, ho, rfl⟩ := List.mem_map.mp hvo
    have er : V.int (1 + r) = V.int ((1 + r.toNat : Nat) : Int) := by congr 1; omega
    dsimp only
    rw [er]
    refine ⟨_, rfl, _, rfl, b, c, 1 + r.toNat, rfl, bg16', by omega, fun kf H16b s16b bg16b hkf => ?_⟩
    have sxB := (s16.trans s16').trans s16b
    have wb16 := wb15.m apart sxB (bg14.tk sxB)
    obtain ⟨bv, ebv, tbv⟩ := wb16.b
    have lbv : bv.length = j := by rw [tbv.lenm, lbs]
    refine ⟨_, rfl, .inl ⟨rfl, _, SqL.of ebv⟩, _, rfl, b, c, 3, rfl, bg16b, by decide, by decide, fun z H17 s17 bg17 z0 z1 => ⟨_, _, rfl, rfl, _, rfl, ?_⟩⟩
    have wb17 := wb16.m apart s17 (bg16b.tk s17)
    have eB17 := s17 B _ apart.b0 ebv
    have sH17 := s15.trans (sxB.trans s17)
    refine ite2 (fun _ => ?_) (fun _ => ?_)
    · skip
      refine ⟨_, rfl, _, rfl, _, rfl, _, rfl, by show 4 ≤ sizeLine; decide, fun p8 hp8 => ?_⟩
      have k8' : Same H17 (upd H17 p8 (.tup [.str n, .str o, .int ((1 + r.toNat : Nat) : Int), .int (kf : Int)])) := Same.new hp8
      have wb18 := wb17.m apart (same_sx k8') k8'.tk
      have tb : Tv (upd H17 p8 (.tup [.str n, .str o, .int ((1 + r.toNat : Nat) : Int), .int (kf : Int)])) (.ref p8) (Belt.py ⟨n, o, 1 + r.toNat, kf⟩) := .tup upd_same (.cons (.str _) (.cons (.str _) (.cons (.int _) (.cons (.int _) .nil))))
      have eB18 := k8' _ _ eB17
      refine ⟨B, bv, _, rfl, rfl, eB18, smallL (by omega), ?_⟩
      have bg18 := (bg17.m k8').upd (F := B) (o := .lst (bv ++ [.ref p8])) apart.b0 cB
      have wb19 := wb18.appB apart eB18 tb
      have s19 := (s9' (sH17.trans (same_sx k8'))).mut (o := .lst (bv ++ [.ref p8])) hBH
      generalize upd (upd H17 p8 (.tup [.str n, .str o, .int ((1 + r.toNat : Nat) : Int), .int (kf : Int)])) B (.lst (bv ++ [.ref p8])) = H19 at bg18 wb19 s19 ⊢
      refine ⟨_, rfl, .inl ⟨rfl, _, SqL.of wb19.j⟩, _, rfl, J, _, _, rfl, rfl, wb19.j, smallL (by rw [List.length_map]; simp only [List.length_cons, List.length_take]; omega), ⟨_, _, _, _, _, _, _, _, rfl⟩, s19.mut hJH, bg18.upd apart.j0 cJ, fms ++ [⟨n, 1 + k, ps⟩], bs ++ [⟨n, o, 1 + r.toNat, kf⟩], ?_, ?_, ?_, ?_, ?_⟩
      · have := wb19.appJ apart (m := n)
        rw [jn1] at this
        exact this
      · rw [List.map_append, enm, ← jn1]
        rfl
      · intro x hx
        rcases List.mem_append.mp hx with hx | hx
        · exact ffit x hx
        · simp at hx
          subst hx
          exact nfit
      · rw [List.length_append, lbs]
        rfl
      · intro x hx
        rw [← jn1]
        rcases List.mem_append.mp hx with hx | hx
        · have := bfit x hx
          exact ⟨⟨List.mem_append_left _ this.1.1, List.mem_append_left _ this.1.2⟩, this.2⟩
        · simp at hx
          subst hx
          exact ⟨⟨List.mem_append_right _ (by simp), List.mem_append_left _ ho⟩, hkf, by show 1 + r.toNat ≤ 100; omega⟩
    · skip
      refine ⟨_, rfl, _, rfl, _, rfl, _, rfl, by show 4 ≤ sizeLine; decide, fun p8 hp8 => ?_⟩
      have k8' : Same H17 (upd H17 p8 (.tup [.str o, .str n, .int ((1 + r.toNat : Nat) : Int), .int (kf : Int)])) := Same.new hp8
      have wb18 := wb17.m apart (same_sx k8') k8'.tk
      have tb : Tv (upd H17 p8 (.tup [.str o, .str n, .int ((1 + r.toNat : Nat) : Int), .int (kf : Int)])) (.ref p8) (Belt.py ⟨o, n, 1 + r.toNat, kf⟩) := .tup upd_same (.cons (.str _) (.cons (.str _) (.cons (.int _) (.cons (.int _) .nil))))
      have eB18 := k8' _ _ eB17
      refine ⟨B, bv, _, rfl, rfl, eB18, smallL (by omega), ?_⟩
      have bg18 := (bg17.m k8').upd (F := B) (o := .lst (bv ++ [.ref p8])) apart.b0 cB
      have wb19 := wb18.appB apart eB18 tb
      have s19 := (s9' (sH17.trans (same_sx k8'))).mut (o := .lst (bv ++ [.ref p8])) hBH
      generalize upd (upd H17 p8 (.tup [.str o, .str n, .int ((1 + r.toNat : Nat) : Int), .int (kf : Int)])) B (.lst (bv ++ [.ref p8])) = H19 at bg18 wb19 s19 ⊢
      refine ⟨_, rfl, .inl ⟨rfl, _, SqL.of wb19.j⟩, _, rfl, J, _, _, rfl, rfl, wb19.j, smallL (by rw [List.length_map]; simp only [List.length_cons, List.length_take]; omega), ⟨_, _, _, _, _, _, _, _, rfl⟩, s19.mut hJH, bg18.upd apart.j0 cJ, fms ++ [⟨n, 1 + k, ps⟩], bs ++ [⟨o, n, 1 + r.toNat, kf⟩], ?_, ?_, ?_, ?_, ?_⟩
      · have := wb19.appJ apart (m := n)
        rw [jn1] at this
        exact this
      · rw [List.map_append, enm, ← jn1]
        rfl
      · intro x hx
        rcases List.mem_append.mp hx with hx | hx
        · exact ffit x hx
        · simp at hx
          subst hx
          exact nfit
      · rw [List.length_append, lbs]
        rfl
      · intro x hx
        rw [← jn1]
        rcases List.mem_append.mp hx with hx | hx
        · have := bfit x hx
          exact ⟨⟨List.mem_append_left _ this.1.1, List.mem_append_left _ this.1.2⟩, this.2⟩
        · simp at hx
          subst hx
          exact ⟨⟨List.mem_append_left _ ho, List.mem_append_right _ (by simp)⟩, hkf, by show 1 + r.toNat ≤ 100; omega⟩
  · obtain ⟨⟨o9, o10, o11, o12, o13, o14, o15, o16, rfl⟩, s10, bg10, fms, bs, wb10, enm, ffit, lbs, bfit⟩ := p
    have enn : ns.take m = ns := by rw [← lns]; exact List.take_length
    rw [enn] at wb10 enm bfit
    dsimp only
    refine tFor_rng (fun k H' => Sx (S1 b) H10 H' ∧ BagAt H' b c ∧ k ≤ 2 ∧ (k ≠ 0 → 0 < m)) (fun Qb kk => ?_) (fun k H' g => by omega) (fun k H11 g => ?_)
    · refine ⟨_, rfl, _, _, rfl, rfl, _, rfl, ite2 (fun cc => ?_) (fun _ => kk 0 _ ⟨Sx.refl _, bg10, by omega, fun z => absurd rfl z⟩)⟩
      have m0 : 0 < m := by
        have := of_decide_eq_true cc
        omega
      refine ⟨_, rfl, by show 4 ≤ sizeLine; decide, fun p hp => ?_⟩
      have kp : Same H10 (upd H10 p (.lst [.int 0, .int 0, .int 1, .int 2])) := Same.new hp
      refine ⟨b, c, p, _, rfl, bg10.m kp, upd_same, fun z => by subst z; exact bg10.there.1 hp, by simp, by simp, fun v H12 s12 bg12 hv => ?_⟩
      have sx := (same_sx kp).trans s12
      simp only [List.mem_cons, List.not_mem_nil, or_false] at hv
      rcases hv with rfl | rfl | rfl | rfl
      · exact kk 0 _ ⟨sx, bg12, by omega, fun _ => m0⟩
      · exact kk 0 _ ⟨sx, bg12, by omega, fun _ => m0⟩
      · exact kk 1 _ ⟨sx, bg12, by omega, fun _ => m0⟩
      · exact kk 2 _ ⟨sx, bg12, by omega, fun _ => m0⟩
    obtain ⟨s11, bg11, hk2, hkm⟩ := g
    have wb11 := wb10.m apart s11 (bg10.tk s11)
    refine for_it (walk_range (lo := 0) (n := k)) (fun t σ H' => (∃ o9 o10 o11 o12 o13 o14 o15 o16, σ = [some (.ref b), some (.int (m : Int)), some (.int (most : Int)), some (.ref N), some (.str fl), some (.int (2 + i)), some (.ref F), some (.ref B), some (.ref J), o9, o10, o11, o12, o13, o14, o15, o16]) ∧ Sx (S1 b) H H' ∧ BagAt H' b c ∧
        ∃ bs : List Belt, Wb H' F B J N fms bs (fl :: ns) ns ∧ bs.length = m + t ∧ ∀ x ∈ bs, x.fits (fl :: ns))
      ⟨⟨_, _, _, _, _, _, _, _, rfl⟩, s10.trans s11, bg11, bs, wb11, lbs, bfit⟩ (fun _ _ _ _ _ => trivial) (fun t x σ H12 H13 ht p hy => ?_) (fun σ H12 p => ?_)
    · obtain ⟨⟨o9, o10, o11, o12, o13, o14, o15, o16, rfl⟩, s12, bg12, bs, wb12, lbs, bfit⟩ := p
      obtain ⟨rfl, rfl⟩ := hy
      have m0 := hkm (by omega)
      refine ⟨_, rfl, _, rfl, b, c, J, _, rfl, bg12, wb12.j, apart.j0, by rw [List.length_map]; simp only [List.length_cons]; omega, fun pX H14 ys s14 bg14 hpX eX permX => ⟨_, rfl, pX, ys, rfl, SqL.of eX, fun l hl => ?_⟩⟩
      obtain ⟨js, pj, rfl⟩ := strs_perm permX
      have lj : js.length = m + 1 := by rw [pj.length_eq, List.length_cons, lns]
      obtain ⟨a1, a2, rest, rfl⟩ : ∃ a1 a2 rest, js = a1 :: a2 :: rest := by
        match js, lj with
        | a1 :: a2 :: rest, _ => exact ⟨a1, a2, rest, rfl⟩
        | [_], lj => simp at lj; omega
        | [], lj => simp at lj
      have ecut2 : cutV ((a1 :: a2 :: rest).map V.str) none (some 2) = [.str a1, .str a2] := by
        unfold cutV
        rw [HT.sIx_none, show (some (2 : Int)) = some ((2 : Nat) : Int) from rfl, HT.sIx_nat, List.length_map, Nat.min_eq_left (by simp only [List.length_cons]; omega)]
        rfl
      rw [ecut2]
      have kl : Same H14 (upd H14 l (.lst [.str a1, .str a2])) := Same.new hl
      have bgl := bg14.m kl
      have sxl := s14.trans (same_sx kl)
      have h1 : a1 ∈ fl :: ns := pj.mem_iff.mp (by simp)
      have h2 : a2 ∈ fl :: ns := pj.mem_iff.mp (by simp)
      refine ⟨l, _, rfl, SqL.of upd_same, rfl, _, _, rfl, _, _, rfl, rfl, ?_⟩
      generalize upd H14 l (.lst [.str a1, .str a2]) = H15 at bgl sxl ⊢
      refine ⟨_, rfl, b, c, 4, rfl, bgl, by decide, by decide, fun r H16 s16 bg16 r0 r1 => ⟨_, _, rfl, rfl, ?_⟩⟩
      have er : V.int (1 + r) = V.int ((1 + r.toNat : Nat) : Int) := by congr 1; omega
      dsimp only
      rw [er]
      have sx16 := sxl.trans s16
      have wb16 := wb12.m apart sx16 (bg12.tk sx16)
      obtain ⟨bv, ebv, tbv⟩ := wb16.b
      have lbv : bv.length = m + t := by rw [tbv.lenm, lbs]
      refine ⟨_, rfl, .inl ⟨rfl, _, SqL.of ebv⟩, _, rfl, _, rfl, _, rfl, _, rfl, _, rfl, b, c, 1 + r.toNat, rfl, bg16, by omega, fun kf H17 s17 bg17 hkf => ⟨by show 4 ≤ sizeLine; decide, fun p8 hp8 => ?_⟩⟩
      have wb17 := wb16.m apart s17 (bg16.tk s17)
      have k8' : Same H17 (upd H17 p8 (.tup [.str a1, .str a2, .int ((1 + r.toNat : Nat) : Int), .int (kf : Int)])) := Same.new hp8
      have wb18 := wb17.m apart (same_sx k8') k8'.tk
      have tb : Tv (upd H17 p8 (.tup [.str a1, .str a2, .int ((1 + r.toNat : Nat) : Int), .int (kf : Int)])) (.ref p8) (Belt.py ⟨a1, a2, 1 + r.toNat, kf⟩) := .tup upd_same (.cons (.str _) (.cons (.str _) (.cons (.int _) (.cons (.int _) .nil))))
      have eB18 := k8' _ _ (s17 B _ apart.b0 ebv)
      refine ⟨B, bv, _, rfl, rfl, eB18, smallL (by omega), ⟨_, _, _, _, _, _, _, _, rfl⟩, (s12.trans ((sx16.trans s17).trans (same_sx k8'))).mut hBH, (bg17.m k8').upd apart.b0 cB, _, wb18.appB apart eB18 tb, by rw [List.length_append, lbs]; rfl, fun x hx => ?_⟩
      rcases List.mem_append.mp hx with hx | hx
      · exact bfit x hx
      · simp at hx
        subst hx
        exact ⟨⟨h1, h2⟩, hkf, by show 1 + r.toNat ≤ 100; omega⟩
    · obtain ⟨⟨o9, o10, o11, o12, o13, o14, o15, o16, rfl⟩, s12, bg12, bs, wb12, lbs, bfit⟩ := p
      obtain ⟨fv, ef, tf⟩ := wb12.f
      have nmok : ∀ x ∈ fms, PyData.strOk x.nm = true := fun x hx => by
        have : x.nm ∈ fl :: ns := by rw [← enm]; exact List.mem_map.mpr ⟨x, hx, rfl⟩
        rcases List.mem_cons.mp this with h1 | h1
        · rw [h1]; exact flok.1
        · exact (allok _ (nsub _ h1)).1
      refine ⟨_, rfl, F, fv, fms.map Mach.py, rfl, SqL.of ef, tf, ?_, ?_, ?_, fun zs p4 hp4 t4 => ⟨p4, zs, rfl, SqL.of upd_same, fun l hl => ?_⟩⟩
      · intro a ha b' hb'
        obtain ⟨x, _, rfl⟩ := List.mem_map.mp ha
        obtain ⟨y, _, rfl⟩ := List.mem_map.mp hb'
        exact mach_alike x y
      · refine .inl fun a ha => ?_
        obtain ⟨x, _, rfl⟩ := List.mem_map.mp ha
        exact ⟨_, _, rfl⟩
      · intro a ha
        obtain ⟨x, hx, rfl⟩ := List.mem_map.mp ha
        exact Nat.le_trans (mach_sm (nmok x hx)).dep (by decide)
      rw [srtM_map] at t4
      have k1 : Same H12 (upd H12 p4 (.lst zs)) := Same.new hp4
      have k2 : Same _ (upd (upd H12 p4 (.lst zs)) l (.tup zs)) := Same.new hl
      have k12 := k1.trans k2
      have tM : Tv (upd (upd H12 p4 (.lst zs)) l (.tup zs)) (.ref l) (.tuple ((srtM fms).map Mach.py)) := .tup upd_same (t4.m k12.tk)
      have bg13 := bg12.m k12
      have wb13 := wb12.m apart (same_sx k12) k12.tk
      have s13 := s12.trans (same_sx k12)
      generalize upd (upd H12 p4 (.lst zs)) l (.tup zs) = H13 at tM bg13 wb13 s13 ⊢
      obtain ⟨bv, ebv, tbv⟩ := wb13.b
      have lbv : bv.length = m + k := by rw [tbv.lenm, lbs]
      refine ⟨_, rfl, _, rfl, b, c, B, bv, rfl, bg13, ebv, apart.b0, by omega, fun pX H14 ys s14 bg14 hpX eX permX => ⟨pX, ys, rfl, SqL.of eX, fun l2 hl2 => ⟨_, rfl, by show 3 ≤ sizeLine; decide, fun pz hpz => ?_⟩⟩⟩
      obtain ⟨bs', pb, tb'⟩ := paired_perm permX.symm tbv.paired
      have k3 : Same H14 (upd H14 l2 (.tup ys)) := Same.new hl2
      have k4 : Same _ (upd (upd H14 l2 (.tup ys)) pz (.tup [.ref l, .ref l2, .str fl])) := Same.new hpz
      have k34 := k3.trans k4
      have tys : TvAll H14 ys (bs'.map Belt.py) := Paired.tv (Paired.mapP tb' fun x y h => h.m (bg13.tk s14))
      have enames : (⟨srtM fms, bs', fl⟩ : Hall).names = (srtM fms).map Mach.nm := rfl
      have pms : (srtM fms).Perm fms := List.mergeSort_perm _ _
      have pnm : ((srtM fms).map Mach.nm).Perm (fl :: ns) := by rw [← enm]; exact pms.map _
      refine q (.ref pz) _ ⟨srtM fms, bs', fl⟩ (s13.trans (s14.trans (same_sx k34))) (bg14.m k34) (.tup upd_same (.cons (tM.m ((bg13.tk s14).trans k34.tk)) (.cons (.tup (k4 _ _ upd_same) (tys.m k34.tk)) (.cons (.str _) .nil)))) ?_
      have lm : (srtM fms).length = m + 1 := by
        have := pnm.length_eq
        rw [List.length_map, List.length_cons, lns] at this
        exact this
      refine ⟨by show 1 ≤ (srtM fms).length; omega, by show (srtM fms).length ≤ 4; omega, by show bs'.length ≤ 5; rw [pb.length_eq]; omega, ?_, srtM_sorted fms, fun x hx => ?_, fun x hx => ?_, fun x hx => ?_, fun x hx => ?_, flok⟩
      · rw [enames]
        exact pnm.nodup_iff.mpr (List.nodup_cons.mpr ⟨flN, nnd⟩)
      · have := bfit x (pb.mem_iff.mp hx)
        rw [enames]
        exact ⟨pnm.mem_iff.mpr this.1.1, pnm.mem_iff.mpr this.1.2⟩
      · exact (bfit x (pb.mem_iff.mp hx)).2
      · exact ffit x (pms.mem_iff.mp hx)
      · rw [enames] at hx
        rcases List.mem_cons.mp (pnm.mem_iff.mp hx) with rfl | h1
        · exact flok
        · exact allok _ (nsub _ h1)
end
end K41
/-! a hall drawn -/
namespace K41
open PySem PySem.Spec PyProof.Rows L2
open C8 (Cal pe_c)
theorem lft_anti {h : Hall} {t : Nat} {n : Str} (m : n ∈ h.lft (t + 1)) : n ∈ h.lft t := (List.mem_filter.mp m).1
def rkN (h : Hall) : Nat → Str → Nat
  | 0, _ => 0
  | t + 1, n => if n ∈ h.lft (t + 1) then t + 1 else rkN h t n
theorem rkN_le (h : Hall) : ∀ t n, rkN h t n ≤ t
  | 0, _ => Nat.le_refl _
  | t + 1, n => by
    unfold rkN
    split
    · exact Nat.le_refl _
    · exact Nat.le_succ_of_le (rkN_le h t n)
theorem rkN_mem (h : Hall) : ∀ t n, rkN h t n = 0 ∨ n ∈ h.lft (rkN h t n)
  | 0, _ => .inl rfl
  | t + 1, n => by
    unfold rkN
    split
    · rename_i c
      exact .inr c
    · exact rkN_mem h t n
theorem rkN_max (h : Hall) : ∀ t n s, s ≤ t → n ∈ h.lft s → s ≤ rkN h t n
  | 0, _, s, hs, _ => hs
  | t + 1, n, s, hs, hm => by
    unfold rkN
    split
    · exact hs
    · rename_i c
      have : s ≠ t + 1 := fun z => c (z ▸ hm)
      exact rkN_max h t n s (by omega) hm
theorem lft_up {h : Hall} (lo : h.Lo) (stn : ∀ x ∈ h.arcs, h.en x ∈ h.names) {x : Arc} (hx : x ∈ h.arcs) (hg : h.gr x = 0) : ∀ t, h.st x ∈ h.lft t → h.en x ∈ h.lft (t + 1)
  | 0, hs => List.mem_filter.mpr ⟨stn x hx, decide_eq_true (led_mem.mpr ⟨x, hx, hg, hs, rfl⟩)⟩
  | t + 1, hs => List.mem_filter.mpr ⟨lft_up lo stn hx hg t (lft_anti hs), decide_eq_true (led_mem.mpr ⟨x, hx, hg, hs, rfl⟩)⟩
theorem live_rank {h : Hall} (wb : h.Web) (e : h.lft h.ms.length = []) : ∃ r, Ranked h r := by
  have stn : ∀ x ∈ h.arcs, h.st x ∈ h.names ∧ h.en x ∈ h.names := fun x m => by
    have hx := Hall.has_of m
    cases x with
    | next n =>
      rcases List.mem_append.mp m with m | m
      · obtain ⟨k, hk, e⟩ := List.mem_map.mp m
        cases e
        exact ⟨hk, hk⟩
      · obtain ⟨i, _, m⟩ := List.mem_flatMap.mp m
        simp at m
    | down i => exact wb.ends _ (Hall.belt_mem hx)
    | up i => exact ⟨(wb.ends _ (Hall.belt_mem hx)).2, (wb.ends _ (Hall.belt_mem hx)).1⟩
  have n1 := wb.n1
  have n4 := wb.n4
  have lt : ∀ n, rkN h h.ms.length n < h.ms.length := fun n => by
    have h1 := rkN_le h h.ms.length n
    rcases rkN_mem h h.ms.length n with z | z
    · omega
    · by_cases c : rkN h h.ms.length n = h.ms.length
      · rw [c, e] at z
        cases z
      · omega
  have up : ∀ x ∈ h.arcs, h.gr x = 0 → rkN h h.ms.length (h.st x) < rkN h h.ms.length (h.en x) := fun x hx hg => by
    have hs : h.st x ∈ h.lft (rkN h h.ms.length (h.st x)) := by
      rcases rkN_mem h h.ms.length (h.st x) with z | z
      · rw [z]
        exact (stn x hx).1
      · exact z
    have := lft_up wb.lo (fun x m => (stn x m).2) hx hg _ hs
    exact rkN_max h _ _ _ (lt _) this
  refine ⟨rkN h h.ms.length, fun n => by have := lt n; omega, fun n _ => lt n, up, fun n hn h0 => ?_⟩
  obtain ⟨t, et⟩ : ∃ t, rkN h h.ms.length n = t + 1 := ⟨rkN h h.ms.length n - 1, by omega⟩
  have hm : n ∈ h.lft (t + 1) := by
    rcases rkN_mem h h.ms.length n with z | z
    · omega
    · rw [et] at z
      exact z
  obtain ⟨x, hx, hg, hs, he⟩ := led_mem.mp (of_decide_eq_true (List.mem_filter.mp hm).2)
  refine ⟨x, hx, hg, he, ?_⟩
  have h1 := rkN_max h h.ms.length (h.st x) t (by have := lt n; omega) hs
  have h2 := up x hx hg
  rw [he] at h2
  omega
def Belt.fix (b : Belt) : Belt :=
  let room := if b.room > 2 then b.room else 2
  let f := if b.first > 1 then b.first else 1
  ⟨b.a, b.b, room, if f < room - 1 then f else room - 1⟩
theorem fix_ok (b : Belt) : 1 ≤ b.fix.first ∧ b.fix.first + 1 ≤ b.fix.room ∧ (b.room ≤ 100 → b.fix.room ≤ 100) := by
  unfold Belt.fix
  dsimp only
  split <;> split <;> split <;> omega
def Hall.fixed (h : Hall) : Hall := ⟨h.ms, h.bs.map Belt.fix, h.fl⟩
theorem fixed_ok {h : Hall} (wb : h.Web) : h.fixed.Ok := by
  have n1 := wb.n1
  refine ⟨wb.n1, wb.n4, by show (h.bs.map Belt.fix).length ≤ 5; rw [List.length_map]; exact wb.b5, wb.nd, wb.srt, fun b hb => ?_, fun b hb => ?_, wb.small, wb.str, wb.fl, fun _ => 0, fun _ => Nat.zero_le _, fun _ _ => n1, fun x hx hg => ?_, fun _ _ z => absurd z (Nat.lt_irrefl _)⟩
  · obtain ⟨b0, h0, rfl⟩ := List.mem_map.mp hb
    exact wb.ends b0 h0
  · obtain ⟨b0, h0, rfl⟩ := List.mem_map.mp hb
    have f := fix_ok b0
    have := f.2.2 (wb.room b0 h0).2
    omega
  · exfalso
    have hh := Hall.has_of hx
    have key : ∀ i, i < h.fixed.bs.length → ∃ b0 ∈ h.bs, h.fixed.belt i = b0.fix := fun i hi => by
      obtain ⟨b0, h0, e⟩ := List.mem_map.mp (Hall.belt_mem hi)
      exact ⟨b0, h0, e.symm⟩
    cases x with
    | next n => cases hg
    | down i =>
      obtain ⟨b0, h0, e⟩ := key i hh
      have := fix_ok b0
      have hg2 : (h.fixed.belt i).first = 0 := hg
      rw [e] at hg2
      omega
    | up i =>
      obtain ⟨b0, h0, e⟩ := key i hh
      have := fix_ok b0
      have hg2 : (h.fixed.belt i).room - (h.fixed.belt i).first = 0 := hg
      rw [e] at hg2
      omega
section
variable {P : Program} {w : World} {K : PySem.W.Frag} {mg : Str → Option Value} {base : Heap}
def sp__law_hall : Sp := fun vs H Q _ => ∃ (b c : Addr) (m : Nat) (most : Nat), vs = [.ref b, .int (m : Int), .int (most : Int)] ∧ BagAt H b c ∧ m ≤ 3 ∧ 0 < most ∧ most ≤ 100 ∧ ∀ (v : V) (H' : Hp) (h : Hall), Sx (S1 b) H H' → BagAt H' b c → Tv H' v h.py → h.Ok → Q v H'
theorem c__law_hall (T : Txt K mg) : Cal P w K mg base 5 "_law_hall" (sp__law_hall) [] := by
  refine cal_of T.d__law_hall sc__law_hall (fun vs H Q E h => by first | (obtain ⟨_, rfl, _⟩ := h; rfl) | (obtain ⟨_, _, rfl, _⟩ := h; rfl) | (obtain ⟨_, _, _, rfl, _⟩ := h; rfl) | (obtain ⟨_, _, _, _, rfl, _⟩ := h; rfl) | (obtain ⟨_, _, _, _, _, rfl, _⟩ := h; rfl) | (obtain ⟨_, _, _, _, _, _, rfl, _⟩ := h; rfl) | (obtain ⟨_, _, _, _, _, _, _, rfl, _⟩ := h; rfl) | (obtain ⟨_, _, _, _, _, _, _, _, rfl, _⟩ := h; rfl) | (obtain ⟨_, _, _, _, _, _, _, _, _, rfl, _⟩ := h; rfl) | (obtain ⟨_, _, _, _, _, _, _, _, _, _, rfl, _⟩ := h; rfl) | (obtain ⟨_, _, _, _, _, _, _, _, _, _, _, rfl, _⟩ := h; rfl) | (obtain ⟨_, _, _, _, _, _, _, _, _, _, _, _, rfl, _⟩ := h; rfl)) bi__law_hall (fun f cdv A outer s H vs Q E hr hsp => ?_)
  have hu := hu_of hr
  have hu64 := hr.units
  have hu2 := hu2_of hr
  have hu80 := hu80_of hr
  have nd := sc__law_hall.nd
  refine ⟨_, (pss_cons (ps_set (i := 3) nd rfl (by first | exact Or.inl rfl | exact Or.inr rfl) (pe_c (c__law_web T) hr (by decide) rfl (pa_cons (pv 0) (pa_cons (pv 1) (pa_cons (pv 2) pa_nil)))))
    (pss_cons (ps_if (pt_val (pe_c (c__law_is_live T) hr (by decide) rfl (pa_cons (pv 3) pa_nil))) (pss_one (ps_ret (pv 3))) pss_nil)
    (pss_cons (ps_set (i := 4) nd rfl (by first | exact Or.inl rfl | exact Or.inr rfl) (pe_lst pa_nil))
    (pss_cons (ps_for PassesOwn.never rfl (pit (K := K) rfl (pe_ix (ixt (K := K) rfl) (pv 3) pe_int (fun _ _ => rfl))) (pgt (K := K) (n := 4) rfl (pgs_cons (pg_name (i := 5) nd rfl (by first | exact Or.inl rfl | exact Or.inr rfl)) (pgs_cons (pg_name (i := 6) nd rfl (by first | exact Or.inl rfl | exact Or.inr rfl)) (pgs_cons (pg_name (i := 7) nd rfl (by first | exact Or.inl rfl | exact Or.inr rfl)) (pgs_cons (pg_name (i := 8) nd rfl (by first | exact Or.inl rfl | exact Or.inr rfl)) pgs_nil))))) (pss_cons (ps_set (i := 7) nd rfl (by first | exact Or.inl rfl | exact Or.inr rfl) (pe_callB (call_max2 rfl) (by rfl) T.b_max (by decide +kernel) (pa_cons pe_int (pa_cons (pv 7) pa_nil))))
    (pss_one (ps_expr (pe_bm PySem.F.plainAttrs_list PySem.F.slot_list_append PySem.F.type_list_append mt_append (pv 4) (pa_cons (pe_tup (pa_cons (pv 5) (pa_cons (pv 6) (pa_cons (pv 7) (pa_cons (pe_callB (call_min2 rfl) (by rfl) T.b_min (by decide +kernel) (pa_cons (pe_op op_sub (pv 7) pe_int) (pa_cons (pe_callB (call_max2 rfl) (by rfl) T.b_max (by decide +kernel) (pa_cons pe_int (pa_cons (pv 8) pa_nil))) pa_nil))) pa_nil))))) pa_nil))))))
    (pss_one (ps_ret (pe_tup (pa_cons (pe_ix (ixt (K := K) rfl) (pv 3) pe_int (fun _ _ => rfl)) (pa_cons (pe_callTy (cr_tuple (K := K) rfl) (by rfl) T.b_tuple (by decide +kernel) (pa_cons (pv 4) pa_nil)) (pa_cons (pe_ix (ixt (K := K) rfl) (pv 3) pe_int (fun _ _ => rfl)) pa_nil)))))))))), ?_⟩
  obtain ⟨b, c, m, most, rfl, bg, hm3, hmo0, hmo1, q⟩ := hsp
  refine ⟨_, rfl, _, rfl, _, rfl, b, c, m, most, rfl, bg, hm3, hmo0, hmo1, fun v H1 h s1 bg1 tv wb => ?_⟩
  refine ⟨_, rfl, v, h, rfl, tv, wb.lo, fun H2 s2 => ⟨_, rfl, ?_⟩⟩
  have sx2 := s1.trans (same_sx s2)
  have bg2 := bg1.m s2
  have tv2 := tv.m s2.tk
  refine ite2 (fun cc => ⟨_, rfl, q _ _ h sx2 bg2 tv2 (wb.ok (live_rank wb (of_decide_eq_true cc)))⟩) (fun _ => ?_)
  refine ⟨by show 0 ≤ sizeLine; decide, fun B hB => ?_⟩
  obtain ⟨a, m0, b0, ms, bs, rfl, ha, hm, tm, hb, tb⟩ := Hall.inv tv2
  have k3 : Same H2 (upd H2 B (.lst [])) := Same.new hB
  have Bb : B ≠ b := fun z => by subst z; exact bg2.there.1 hB
  have Bc : B ≠ c := fun z => by subst z; exact bg2.there.2 hB
  refine ⟨_, rfl, _, _, 1, _, rfl, rfl, SqT.of (k3 _ _ ha), atI_nat rfl, b0, rfl, ⟨_, SqT.of (k3 _ _ hb)⟩, ?_⟩
  refine for_it (walk_tupL (K := K) tb.lenm) (fun i σ H' => (∃ o5 o6 o7 o8, σ = [some (.ref b), some (.int (m : Int)), some (.int (most : Int)), some (.ref a), some (.ref B), o5, o6, o7, o8]) ∧ Same H2 H' ∧ ∃ bv, H' B = some (.lst bv) ∧ TvAll H' bv (((h.bs.take i).map Belt.fix).map Belt.py))
    ⟨⟨_, _, _, _, rfl⟩, k3, [], upd_same, .nil⟩ (fun i σ H' _ p => SqT.of (p.2.1 _ _ hb)) (fun i xv σ H3 H4 hi p hy => ?_) (fun σ H3 p => ?_)
  · obtain ⟨⟨o5, o6, o7, o8, rfl⟩, s3, bv, ebv, tbv⟩ := p
    obtain ⟨rfl, hx⟩ := hy
    have ei : h.bs[i]? = some h.bs[i] := List.getElem?_eq_getElem hi
    obtain ⟨v5, e1, e2⟩ := (tb.m s3.tk).at ei
    rw [e1] at hx
    cases hx
    have etk : h.bs.take (i + 1) = h.bs.take i ++ [h.bs[i]] := by rw [List.take_succ, ei]; rfl
    have rm := wb.room _ (List.getElem_mem hi)
    generalize h.bs[i] = y at e2 etk rm
    obtain ⟨ba, rfl, hba⟩ := Belt.inv e2
    have lbv : bv.length ≤ 5 := by
      have h1 := tbv.len
      rw [List.length_map, List.length_map, List.length_take] at h1
      have := wb.b5
      omega
    refine ⟨ba, _, rfl, SqT.of hba, rfl, _, _, rfl, _, _, rfl, _, _, rfl, _, _, rfl, rfl, ?_⟩
    refine ⟨_, rfl, _, _, rfl, ?_⟩
    have er : V.int (if (y.room : Int) > 2 then (y.room : Int) else 2) = V.int ((y.fix.room : Nat) : Int) := by
      unfold Belt.fix
      dsimp only
      congr 1
      split <;> split <;> omega
    rw [er]
    refine ⟨_, rfl, .inl ⟨rfl, _, SqL.of ebv⟩, _, rfl, _, rfl, _, rfl, _, rfl, _, _, rfl, rfl, _, rfl, _, _, rfl, _, _, rfl, by show 4 ≤ sizeLine; decide, fun p hp => ?_⟩
    have ef : V.int (if (if (y.first : Int) > 1 then (y.first : Int) else 1) < ((y.fix.room : Nat) : Int) - 1 then (if (y.first : Int) > 1 then (y.first : Int) else 1) else ((y.fix.room : Nat) : Int) - 1) = V.int ((y.fix.first : Nat) : Int) := by
      unfold Belt.fix
      dsimp only
      congr 1
      split <;> split <;> split <;> (try split) <;> (try split) <;> (try split) <;> omega
    dsimp only
    rw [ef]
    have kp : Same H4 (upd H4 p (.tup [.str y.a, .str y.b, .int ((y.fix.room : Nat) : Int), .int ((y.fix.first : Nat) : Int)])) := Same.new hp
    have eB5 := kp _ _ ebv
    have tk5 : TK H4 (upd (upd H4 p (.tup [.str y.a, .str y.b, .int ((y.fix.room : Nat) : Int), .int ((y.fix.first : Nat) : Int)])) B (.lst (bv ++ [.ref p]))) := kp.tk.trans (TK.lst eB5)
    refine ⟨B, bv, _, rfl, rfl, eB5, smallL (by omega), ⟨_, _, _, _, rfl⟩, (s3.trans kp).mut hB, _, upd_same, ?_⟩
    rw [etk, List.map_append, List.map_append]
    exact (tbv.m tk5).append (.cons (.tup ((TK.lst eB5) _ _ upd_same) (.cons (.str _) (.cons (.str _) (.cons (.int _) (.cons (.int _) .nil))))) .nil)
  · obtain ⟨⟨o5, o6, o7, o8, rfl⟩, s3, bv, ebv, tbv⟩ := p
    rw [List.take_length] at tbv
    refine ⟨_, rfl, _, _, 0, _, rfl, rfl, SqT.of (s3 _ _ ha), atI_nat rfl, _, rfl, B, bv, rfl, SqL.of ebv, fun l hl => ?_⟩
    have kl : Same H3 (upd H3 l (.tup bv)) := Same.new hl
    have s4 := s3.trans kl
    refine ⟨_, rfl, _, _, 2, _, rfl, rfl, SqT.of (s4 _ _ ha), atI_nat rfl, by show 3 ≤ sizeLine; decide, fun pz hpz => ?_⟩
    have kz : Same _ (upd (upd H3 l (.tup bv)) pz (.tup [.ref m0, .ref l, .str h.fl])) := Same.new hpz
    have s5 := s4.trans kz
    exact q _ _ h.fixed (sx2.trans (same_sx s5)) (bg2.m s5) (.tup upd_same (.cons (.tup (s5 _ _ hm) (tm.m s5.tk)) (.cons (.tup (kz _ _ upd_same) (tbv.m (kl.trans kz).tk)) (.cons (.str _) .nil)))) (fixed_ok wb)
def sp__law_small : Sp := fun vs H Q _ => ∃ (b c : Addr), vs = [.ref b] ∧ BagAt H b c ∧ ∀ (v : V) (H' : Hp) (h : Hall), Sx (S1 b) H H' → BagAt H' b c → Tv H' v h.py → h.Ok → Q v H'
theorem c__law_small (T : Txt K mg) : Cal P w K mg base 6 "_law_small" (sp__law_small) [] := by
  refine cal_of T.d__law_small sc__law_small (fun vs H Q E h => by first | (obtain ⟨_, rfl, _⟩ := h; rfl) | (obtain ⟨_, _, rfl, _⟩ := h; rfl) | (obtain ⟨_, _, _, rfl, _⟩ := h; rfl) | (obtain ⟨_, _, _, _, rfl, _⟩ := h; rfl) | (obtain ⟨_, _, _, _, _, rfl, _⟩ := h; rfl) | (obtain ⟨_, _, _, _, _, _, rfl, _⟩ := h; rfl) | (obtain ⟨_, _, _, _, _, _, _, rfl, _⟩ := h; rfl) | (obtain ⟨_, _, _, _, _, _, _, _, rfl, _⟩ := h; rfl) | (obtain ⟨_, _, _, _, _, _, _, _, _, rfl, _⟩ := h; rfl) | (obtain ⟨_, _, _, _, _, _, _, _, _, _, rfl, _⟩ := h; rfl) | (obtain ⟨_, _, _, _, _, _, _, _, _, _, _, rfl, _⟩ := h; rfl) | (obtain ⟨_, _, _, _, _, _, _, _, _, _, _, _, rfl, _⟩ := h; rfl)) bi__law_small (fun f cdv A outer s H vs Q E hr hsp => ?_)
  have hu := hu_of hr
  have hu64 := hr.units
  have hu2 := hu2_of hr
  have hu80 := hu80_of hr
  have nd := sc__law_small.nd
  refine ⟨_, (pss_one (ps_ret (pe_ifExp (pt_cmpR op_gt (pe_c (c__law_take T) hr (by decide) rfl (pa_cons (pv 0) (pa_cons pe_int pa_nil))) pe_int (nomark _)) (pe_c (c__law_hall T) hr (by decide) rfl (pa_cons (pv 0) (pa_cons (pe_c (c__law_some T) hr (by decide) rfl (pa_cons (pv 0) (pa_cons (pe_lst (pa_cons pe_int (pa_cons pe_int (pa_cons pe_int (pa_cons pe_int pa_nil))))) pa_nil))) (pa_cons pe_int pa_nil)))) (pe_c (c__law_hall T) hr (by decide) rfl (pa_cons (pv 0) (pa_cons pe_int (pa_cons pe_int pa_nil))))))), ?_⟩
  obtain ⟨b, c, rfl, bg, q⟩ := hsp
  refine ⟨_, rfl, b, c, 4, rfl, bg, by decide, by decide, fun i H1 s1 bg1 i0 i1 => ⟨_, _, rfl, rfl, _, rfl, ite2 (fun _ => ?_) (fun _ => ?_)⟩⟩
  · refine ⟨_, rfl, _, rfl, by show 4 ≤ sizeLine; decide, fun p hp => ?_⟩
    have kp : Same H1 (upd H1 p (.lst [.int 1, .int 2, .int 2, .int 0])) := Same.new hp
    refine ⟨b, c, p, _, rfl, bg1.m kp, upd_same, fun z => by subst z; exact bg1.there.1 hp, by simp, by simp, fun v H2 s2 bg2 hv => ?_⟩
    obtain ⟨k, rfl, hk⟩ : ∃ k : Nat, v = .int (k : Int) ∧ k ≤ 3 := by
      simp only [List.mem_cons, List.not_mem_nil, or_false] at hv
      rcases hv with rfl | rfl | rfl | rfl
      · exact ⟨1, rfl, by omega⟩
      · exact ⟨2, rfl, by omega⟩
      · exact ⟨2, rfl, by omega⟩
      · exact ⟨0, rfl, by omega⟩
    exact ⟨b, c, k, 4, rfl, bg2, hk, by decide, by decide, fun v H3 h s3 bg3 t o => q v H3 h ((s1.trans (same_sx kp)).trans (s2.trans s3)) bg3 t o⟩
  · exact ⟨_, rfl, b, c, 3, 2, rfl, bg1, by decide, by decide, by decide, fun v H3 h s3 bg3 t o => q v H3 h (s1.trans s3) bg3 t o⟩
end
end K41
/-! stops and floors drawn -/
namespace K41
open PySem PySem.Spec PyProof.Rows L2
open C8 (Cal pe_c)
def KeyOk (k : List Key) : Prop := k.length ≤ 3 ∧ ∀ x ∈ k, match x with
  | .inr n => (reprText n).length ≤ 60
  | .inl i => i.natAbs ≤ 1000000
structure StGood (st : StT) (m : Int) : Prop where
  ok : ∀ e ∈ st, KeyOk e.1 ∧ 0 ≤ e.2 ∧ e.2 ≤ m
  len : st.length ≤ 2000
theorem key3_ok {n : Str} {p i : Nat} (hn : (reprText n).length ≤ 60) (hp : p ≤ 1000) (hi : i ≤ 1000) : KeyOk [Sum.inr n, Sum.inl (p : Int), Sum.inl (i : Int)] := by
  refine ⟨by simp, fun x hx => ?_⟩
  simp only [List.mem_cons, List.not_mem_nil, or_false] at hx
  rcases hx with rfl | rfl | rfl
  · exact hn
  · show ((p : Int)).natAbs ≤ 1000000; omega
  · show ((i : Int)).natAbs ≤ 1000000; omega
theorem key2_ok {n : Str} {p : Int} (hn : (reprText n).length ≤ 60) (hp : p.natAbs ≤ 1000) : KeyOk [Sum.inr n, Sum.inl p] := by
  refine ⟨by simp, fun x hx => ?_⟩
  simp only [List.mem_cons, List.not_mem_nil, or_false] at hx
  rcases hx with rfl | rfl
  · exact hn
  · show p.natAbs ≤ 1000000; omega
theorem tAsg_any {te : TE} {g : TG} {D : Ends} {σ : L2.St} {H : Hp} (G : V → Hp → Prop) (h : ∀ Q : V → Hp → Prop, (∀ v H', G v H' → Q v H') → te σ H Q) (k : ∀ v H', G v H' → g v σ H' D.nx) : tAsg te g D σ H := h _ k
/-- pairs put one after another -/
def stM (st : StT) : StT := st.foldl (fun a e => stP a e.1 e.2) []
theorem stM_K : ∀ (more acc : StT), mrg (stK acc) (stK more) = stK (more.foldl (fun a e => stP a e.1 e.2) acc)
  | [], _ => rfl
  | e :: r, acc => by
    show mrg (putK (stK acc) e.1 (.int e.2)) (stK r) = _
    rw [← stP_K]
    exact stM_K r _
theorem stP_mem {st : StT} {k : List Key} {v : Int} {e : List Key × Int} (h : e ∈ stP st k v) : e ∈ st ∨ e = (k, v) := by
  unfold stP at h
  split at h
  · obtain ⟨e0, h0, rfl⟩ := List.mem_map.mp h
    by_cases c : e0.1 = k
    · rw [if_pos c, c]
      exact .inr rfl
    · rw [if_neg c]
      exact .inl h0
  · rcases List.mem_append.mp h with h | h
    · exact .inl h
    · simp at h
      exact .inr h
theorem stM_good {m : Int} : ∀ (more acc : StT), (∀ e ∈ more, KeyOk e.1 ∧ 0 ≤ e.2 ∧ e.2 ≤ m) → (∀ e ∈ acc, KeyOk e.1 ∧ 0 ≤ e.2 ∧ e.2 ≤ m) → (∀ e ∈ more.foldl (fun a e => stP a e.1 e.2) acc, KeyOk e.1 ∧ 0 ≤ e.2 ∧ e.2 ≤ m) ∧ (more.foldl (fun a e => stP a e.1 e.2) acc).length ≤ acc.length + more.length
  | [], _, _, h => ⟨h, Nat.le_refl _⟩
  | e :: r, acc, h1, h2 => by
    have q := stM_good r (stP acc e.1 e.2) (fun x hx => h1 x (List.mem_cons_of_mem _ hx)) fun x hx => by
      rcases stP_mem hx with hx | rfl
      · exact h2 x hx
      · exact h1 e List.mem_cons_self
    have := stP_len acc e.1 e.2
    refine ⟨q.1, Nat.le_trans q.2 ?_⟩
    rw [List.length_cons]
    omega
/-- a list of pairs, shuffled: again such a list -/
def PrsAt (H : Hp) (vs : List V) (st : StT) : Prop := Paired (fun (e : List Key × Int) (v : V) => ∃ p, v = .ref p ∧ PairT H p (e.1, .int e.2)) st vs
theorem PairT.m {H H' : Hp} {p : Addr} {kv : List Key × V} (h : PairT H p kv) (k : TK H H') : PairT H' p kv := let ⟨b, h1, h2⟩ := h; ⟨b, k _ _ h1, k _ _ h2⟩
theorem PrsAt.m {H H' : Hp} {vs : List V} {st : StT} (h : PrsAt H vs st) (k : TK H H') : PrsAt H' vs st := Paired.mapP h fun e v ⟨p, h1, h2⟩ => ⟨p, h1, PairT.m h2 k⟩
theorem PrsAt.ex {H : Hp} {vs : List V} {st : StT} (h : PrsAt H vs st) : ∃ ps : List Addr, vs = ps.map V.ref ∧ Paired (PairT H) ps (stK st) := by
  unfold PrsAt at h
  induction h with
  | nil => exact ⟨[], rfl, .nil⟩
  | cons h _ ih =>
    obtain ⟨ps, rfl, h2⟩ := ih
    obtain ⟨p, rfl, h3⟩ := h
    exact ⟨p :: ps, rfl, .cons h3 h2⟩
theorem PrsAt.shuf {H : Hp} {vs ws : List V} {st : StT} (h : PrsAt H vs st) (p : ws.Perm vs) : ∃ st', st'.Perm st ∧ PrsAt H ws st' := paired_perm p.symm h
/-- dict(mixed pairs) -/
theorem dictT_good {K : PySem.W.Frag} {H : Hp} {a : Addr} {vs : List V} {st : StT} {m : Int} {Q : VK} (ha : H a = some (.lst vs)) (h : PrsAt H vs st) (g : ∀ e ∈ st, KeyOk e.1 ∧ 0 ≤ e.2 ∧ e.2 ≤ m) (hl : st.length ≤ 2000)
    (q : ∀ p H' st', Same H H' → H p = none → H' p = some (.dT (stK st')) → StGood st' m → Q (.ref p) H') : rDictT K [.ref a] H Q := by
  obtain ⟨ps, rfl, h2⟩ := h.ex
  refine ⟨a, ps, stK st, rfl, SqL.of ha, h2, fun p hp => ?_⟩
  have e : mrg [] (stK st) = stK (stM st) := stM_K st []
  rw [e]
  have gg := stM_good st [] g (fun e he => by cases he)
  exact q p _ _ (Same.new hp) hp upd_same ⟨gg.1, Nat.le_trans gg.2 (by simpa using hl)⟩
section
variable {P : Program} {w : World} {K : PySem.W.Frag} {mg : Str → Option Value} {base : Heap}
def sp__law_stops : Sp := fun vs H Q _ => ∃ (b c : Addr) (v : V) (many : Nat) (h : Hall), vs = [.ref b, v, .int (many : Int)] ∧ BagAt H b c ∧ Tv H v h.py ∧ h.Ok ∧ many ≤ 10 ∧ ∀ p H' st, Sx (S1 b) H H' → BagAt H' b c → p ≠ b → H' p = some (.dT (stK st)) → StGood st 1000 → Q (.ref p) H'
theorem c__law_stops (T : Txt K mg) : Cal P w K mg base 3 "_law_stops" (sp__law_stops) [] := by
  refine cal_of T.d__law_stops sc__law_stops (fun vs H Q E h => by first | (obtain ⟨_, rfl, _⟩ := h; rfl) | (obtain ⟨_, _, rfl, _⟩ := h; rfl) | (obtain ⟨_, _, _, rfl, _⟩ := h; rfl) | (obtain ⟨_, _, _, _, rfl, _⟩ := h; rfl) | (obtain ⟨_, _, _, _, _, rfl, _⟩ := h; rfl) | (obtain ⟨_, _, _, _, _, _, rfl, _⟩ := h; rfl) | (obtain ⟨_, _, _, _, _, _, _, rfl, _⟩ := h; rfl) | (obtain ⟨_, _, _, _, _, _, _, _, rfl, _⟩ := h; rfl) | (obtain ⟨_, _, _, _, _, _, _, _, _, rfl, _⟩ := h; rfl) | (obtain ⟨_, _, _, _, _, _, _, _, _, _, rfl, _⟩ := h; rfl) | (obtain ⟨_, _, _, _, _, _, _, _, _, _, _, rfl, _⟩ := h; rfl) | (obtain ⟨_, _, _, _, _, _, _, _, _, _, _, _, rfl, _⟩ := h; rfl)) bi__law_stops (fun f cdv A outer s H vs Q E hr hsp => ?_)
  have hu := hu_of hr
  have hu64 := hr.units
  have hu2 := hu2_of hr
  have hu80 := hu80_of hr
  have nd := sc__law_stops.nd
  refine ⟨_, (pss_cons (ps_set (i := 3) nd rfl (by first | exact Or.inl rfl | exact Or.inr rfl) (pe_lst pa_nil))
    (pss_cons (ps_for PassesOwn.never rfl (pit (K := K) rfl (pe_ix (ixt (K := K) rfl) (pv 1) pe_int (fun _ _ => rfl))) (pgt (K := K) (n := 3) rfl (pgs_cons (pg_name (i := 4) nd rfl (by first | exact Or.inl rfl | exact Or.inr rfl)) (pgs_cons (pg_name (i := 5) nd rfl (by first | exact Or.inl rfl | exact Or.inr rfl)) (pgs_cons (pg_name (i := 6) nd rfl (by first | exact Or.inl rfl | exact Or.inr rfl)) pgs_nil)))) (pss_one (ps_for PassesOwn.never rfl (pi_enT (K := K) rfl (by rfl) T.b_enumerate (pa_cons (pv 6) pa_nil)) (pgt (K := K) (n := 2) rfl (pgs_cons (pg_name (i := 7) nd rfl (by first | exact Or.inl rfl | exact Or.inr rfl)) (pgs_cons (pgt (K := K) (n := 2) rfl (pgs_cons (pg_name (i := 8) nd rfl (by first | exact Or.inl rfl | exact Or.inr rfl)) (pgs_cons (pg_name (i := 9) nd rfl (by first | exact Or.inl rfl | exact Or.inr rfl)) pgs_nil))) pgs_nil))) (pss_cons (ps_par (i := 10) (j := 11) (by rfl) nd rfl rfl (by decide) rfl rfl (pa_cons (pv 8) (pa_cons (pe_c (c__law_some T) hr (by decide) rfl (pa_cons (pv 0) (pa_cons (pe_lst (pa_cons pe_int (pa_cons pe_int (pa_cons pe_int (pa_cons pe_int pa_nil))))) pa_nil))) pa_nil)) (by rfl))
    (pss_one (ps_for PassesOwn.never rfl (pi_range1 (by rfl) T.b_range (pa_cons (pv 2) pa_nil)) (pg_name (i := 12) nd rfl (by first | exact Or.inl rfl | exact Or.inr rfl)) (pss_cons (ps_if (PW.pt (pw_and (pt_cmpR op_gt (pv 10) pe_int (nomark _)) (pw_and1 (pt_cmpR op_eq (pe_c (c__law_take T) hr (by decide) rfl (pa_cons (pv 0) (pa_cons (pv 11) pa_nil))) pe_int (nomark _))))) (pss_cons (ps_set (i := 13) nd rfl (by first | exact Or.inl rfl | exact Or.inr rfl) (pe_ifExp (pt_cmpR op_gt (pe_c (c__law_take T) hr (by decide) rfl (pa_cons (pv 0) (pa_cons pe_int pa_nil))) pe_int (nomark _)) (pv 10) (pe_op op_add pe_int (pe_c (c__law_take T) hr (by decide) rfl (pa_cons (pv 0) (pa_cons (pv 10) pa_nil))))))
    (pss_cons (ps_expr (pe_bm PySem.F.plainAttrs_list PySem.F.slot_list_append PySem.F.type_list_append mt_append (pv 3) (pa_cons (pe_tup (pa_cons (pe_tup (pa_cons (pv 4) (pa_cons (pv 12) (pa_cons (pv 7) pa_nil)))) (pa_cons (pv 13) pa_nil))) pa_nil)))
    (pss_one (ps_aug (i := 10) nd rfl (by first | exact Or.inl rfl | exact Or.inr rfl) (pv 13) ip_sub)))) pss_nil)
    (pss_one (ps_set (i := 10) nd rfl (by first | exact Or.inl rfl | exact Or.inr rfl) (pe_callB (call_min2 rfl) (by rfl) T.b_min (by decide +kernel) (pa_cons (pv 8) (pa_cons (pe_op op_add (pv 10) (pv 9)) pa_nil))))))))))))
    (pss_one (ps_ret (pe_callTy (cr_dictT rfl hu80) (by rfl) T.b_dict (by decide +kernel) (pa_cons (pe_c (c__law_mixed T) hr (by decide) rfl (pa_cons (pv 0) (pa_cons (pv 3) pa_nil))) pa_nil)))))), ?_⟩
  obtain ⟨b, c, v, many, h, rfl, bg, tv, ok, hm, q⟩ := hsp
  have n4 := ok.n4
  obtain ⟨a, m0, b0, ms, bs, rfl, ha, hm0, tm, -, -⟩ := Hall.inv tv
  have bx : ∃ o, H b = some o := Option.ne_none_iff_exists'.mp bg.there.1
  have nb : ∀ {x xs}, H x = some (.tup xs) → x ≠ b := fun e z => bg.ntup _ _ z e
  refine ⟨by show 0 ≤ sizeLine; decide, fun F hF => ?_⟩
  have k0 : Same H (upd H F (.lst [])) := Same.new hF
  have Fb : F ≠ b := fun z => by subst z; exact bg.there.1 hF
  have Fc : F ≠ c := fun z => by subst z; exact bg.there.2 hF
  refine ⟨_, rfl, _, _, 0, _, rfl, rfl, SqT.of (k0 _ _ ha), atI_nat rfl, m0, rfl, ⟨_, SqT.of (k0 _ _ hm0)⟩, ?_⟩
  let Good : Nat → Hp → Prop := fun n H' => Sx (S1 b) H H' ∧ BagAt H' b c ∧ ∃ vs st, H' F = some (.lst vs) ∧ PrsAt H' vs st ∧ (∀ e ∈ st, KeyOk e.1 ∧ 0 ≤ e.2 ∧ e.2 ≤ 1000) ∧ st.length ≤ n
  have gm : ∀ {n H' H''}, Good n H' → Sx (S1 b) H' H'' → BagAt H'' b c → Good n H'' := fun {n H' H''} g s bg' => by
    obtain ⟨s1, bg1, vs, st, e1, e2, e3, e4⟩ := g
    exact ⟨s1.trans s, bg', vs, st, s _ _ Fb e1, e2.m (bg1.tk s), e3, e4⟩
  have gl : ∀ {n n' H'}, Good n H' → n ≤ n' → Good n' H' := fun {n n' H'} g hl => by
    obtain ⟨s1, bg1, vs, st, e1, e2, e3, e4⟩ := g
    exact ⟨s1, bg1, vs, st, e1, e2, e3, Nat.le_trans e4 hl⟩
  refine for_it (walk_tupL (K := K) tm.lenm) (fun i σ H' => (∃ o4 o5 o6 o7 o8 o9 o10 o11 o12 o13, σ = [some (.ref b), some (.ref a), some (.int (many : Int)), some (.ref F), o4, o5, o6, o7, o8, o9, o10, o11, o12, o13]) ∧ Good (i * 30) H')
    ⟨⟨_, _, _, _, _, _, _, _, _, _, rfl⟩, same_sx k0, bg.m k0, [], [], upd_same, .nil, fun e he => (by cases he), Nat.zero_le _⟩ (fun i σ H' _ p => SqT.of (p.2.1 _ _ (nb hm0) hm0)) (fun i xv σ H1 H2 hi p hy => ?_) (fun σ H1 p => ?_)
  · obtain ⟨⟨o4, o5, o6, o7, o8, o9, o10, o11, o12, o13, rfl⟩, g1⟩ := p
    obtain ⟨rfl, hx⟩ := hy
    have ei : h.ms[i]? = some h.ms[i] := List.getElem?_eq_getElem hi
    obtain ⟨v5, e1, e2⟩ := tm.at ei
    rw [e1] at hx
    cases hx
    have sm := ok.small _ (List.getElem_mem hi)
    have nmok := ok.str (h.ms[i]).nm (List.mem_map.mpr ⟨_, List.getElem_mem hi, rfl⟩)
    generalize h.ms[i] = y at e2 sm nmok
    obtain ⟨ya, pp, pxs, rfl, hya, hpp, tpx⟩ := Mach.inv e2
    refine ⟨ya, _, rfl, SqT.of (g1.1 _ _ (nb hya) hya), rfl, _, _, rfl, _, _, rfl, _, _, rfl, rfl, ?_⟩
    refine ⟨_, rfl, pp, pxs, rfl, SqT.of (g1.1 _ _ (nb hpp) hpp), ?_⟩
    have wz : Walk (IteT K pp) y.ps.length (fun H => SqT K H pp pxs) (YPair (fun i => some (.int (i : Nat))) (fun i => pxs[i]?)) := by
      rw [← tpx.lenm]
      exact walk_enumT
    refine for_it wz (fun j σ H' => (∃ o7 o8 o9 o10 o11 o12 o13, σ = [some (.ref b), some (.ref a), some (.int (many : Int)), some (.ref F), some (.str y.nm), some (.int y.tm), some (.ref pp), o7, o8, o9, o10, o11, o12, o13]) ∧ Good (i * 30 + j * 10) H')
      ⟨⟨_, _, _, _, _, _, _, rfl⟩, gl g1 (by omega)⟩ (fun j σ H' _ p => SqT.of (p.2.1 _ _ (nb hpp) hpp)) (fun j xv σ H3 H4 hj p hy => ?_) (fun σ H3 p => ?_)
    · obtain ⟨⟨o7, o8, o9, o10, o11, o12, o13, rfl⟩, g3⟩ := p
      obtain ⟨T2, x1, x2, rfl, hT, rfl, q1, q2⟩ := hy
      dsimp only at q1 q2
      cases q1
      have ej : y.ps[j]? = some y.ps[j] := List.getElem?_eq_getElem hj
      obtain ⟨pv5, f1, f2⟩ := tpx.at ej
      rw [f1] at q2
      have eb : pv5 = x2 := Option.some.inj q2
      subst eb
      have psm := sm.2.2 _ (List.getElem_mem hj)
      generalize y.ps[j] = pr at f2 psm
      obtain ⟨pra, prx, rfl, hpra, tpr⟩ := Tv.tup_inv f2
      cases tpr with
      | cons tp1 tpr =>
        cases tpr with
        | cons tp2 tpr =>
          cases tpr
          cases tp1
          cases tp2
          have kT : Same H3 (upd H3 T2 (.tup [.int (j : Int), .ref pra])) := Same.new hT
          have g4 := gm g3 (same_sx kT) (g3.2.1.m kT)
          have ePr := kT _ _ (g3.1 _ _ (nb hpra) hpra)
          refine ⟨T2, _, rfl, SqT.of upd_same, rfl, _, _, rfl, _, _, rfl, ⟨pra, _, rfl, SqT.of ePr, rfl, _, _, rfl, _, _, rfl, rfl, rfl, ?_⟩⟩
          refine ⟨_, rfl, _, rfl, by show 4 ≤ sizeLine; decide, fun p5 hp5 => ?_⟩
          have k5 : Same _ (upd (upd H3 T2 (.tup [.int (j : Int), .ref pra])) p5 (.lst [.int 1, .int 2, .int 4, .int 9])) := Same.new hp5
          refine ⟨b, c, p5, _, rfl, g4.2.1.m k5, upd_same, fun z => by subst z; exact g4.2.1.there.1 hp5, by simp, by simp, fun vs5 H5 s5 bg5 hvs => ⟨_, _, rfl, ?_⟩⟩
          obtain ⟨sh, rfl, hsh⟩ : ∃ sh : Int, vs5 = .int sh ∧ 0 < sh ∧ sh ≤ 9 := by
            simp only [List.mem_cons, List.not_mem_nil, or_false] at hvs
            rcases hvs with rfl | rfl | rfl | rfl
            · exact ⟨1, rfl, by omega⟩
            · exact ⟨2, rfl, by omega⟩
            · exact ⟨4, rfl, by omega⟩
            · exact ⟨9, rfl, by omega⟩
          have g5 := gm g4 ((same_sx k5).trans s5) bg5
          refine ⟨_, rfl, _, rfl, by omega, by omega, ?_⟩
          have et : ((many : Int)).toNat = many := rfl
          rw [et]
          refine for_it (walk_range (lo := 0) (n := many)) (fun p σ H' => (∃ (o12 o13 : Option V) (has : Int), σ = [some (.ref b), some (.ref a), some (.int (many : Int)), some (.ref F), some (.str y.nm), some (.int y.tm), some (.ref pp), some (.int (j : Int)), some (.int pr.1), some (.int pr.2), some (.int has), some (.int sh), o12, o13] ∧ has ≤ 1000) ∧ Good (i * 30 + j * 10 + p) H')
            ⟨⟨_, _, pr.1, rfl, by omega⟩, gl g5 (by omega)⟩ (fun _ _ _ _ _ => trivial) (fun p xv σ H6 H7 hp p' hy => ?_) (fun σ H6 p' => ?_)
          · obtain ⟨⟨o12, o13, has, rfl, hhas⟩, g6⟩ := p'
            obtain ⟨rfl, rfl⟩ := hy
            have e0 : V.int (0 + (p : Int)) = V.int (p : Int) := by rw [Int.zero_add]
            dsimp only
            rw [e0]
            refine tSeq_mid (fun σ' H' => (∃ (o13 : Option V) (has : Int), σ' = [some (.ref b), some (.ref a), some (.int (many : Int)), some (.ref F), some (.str y.nm), some (.int y.tm), some (.ref pp), some (.int (j : Int)), some (.int pr.1), some (.int pr.2), some (.int has), some (.int sh), some (.int (p : Int)), o13] ∧ has ≤ 1000) ∧ Good (i * 30 + j * 10 + (p + 1)) H') (fun En kk => ?_) (fun σ8 H8 pp8 => ?_)
            · refine tIfS_any (fun t H' => Good (i * 30 + j * 10 + p) H' ∧ (t = true → 0 < has)) (fun Qb k => ?_) (fun H8 gg => ?_) (fun H8 gg => kk _ _ ⟨⟨_, _, rfl, hhas⟩, gl gg.1 (by omega)⟩)
              · refine ⟨_, rfl, _, _, rfl, rfl, _, rfl, ?_⟩
                by_cases c0 : 0 < has
                · have c1 : decide ((0 : Int) < has) = true := decide_eq_true c0
                  rw [c1]
                  exact iteT ⟨_, rfl, _, rfl, b, c, sh, rfl, g6.2.1, by omega, by omega, fun q7 H8 s8 bg8 _ _ => ⟨rfl, _, rfl, k _ _ ⟨gm g6 s8 bg8, fun _ => c0⟩⟩⟩
                · have c1 : decide ((0 : Int) < has) = false := decide_eq_false c0
                  rw [c1]
                  exact iteF (k _ _ ⟨g6, fun z => by cases z⟩)
              · obtain ⟨g8, hpos⟩ := gg
                have hpos := hpos rfl
                refine tSeq_mid (fun σ' H' => (∃ tk : Int, σ' = [some (.ref b), some (.ref a), some (.int (many : Int)), some (.ref F), some (.str y.nm), some (.int y.tm), some (.ref pp), some (.int (j : Int)), some (.int pr.1), some (.int pr.2), some (.int has), some (.int sh), some (.int (p : Int)), some (.int tk)] ∧ 0 ≤ tk ∧ tk ≤ has) ∧ Good (i * 30 + j * 10 + p) H') (fun En2 kk2 => ?_) (fun σ9 H9 pp9 => ?_)
                · refine tAsg_any (fun v H' => Good (i * 30 + j * 10 + p) H' ∧ ∃ tk : Int, v = .int tk ∧ 0 ≤ tk ∧ tk ≤ has) (fun Q' k' => ?_) (fun v H' gg => ?_)
                  · refine ⟨_, rfl, b, c, 3, rfl, g8.2.1, by decide, by decide, fun q7 H9 s9 bg9 _ _ => ⟨_, _, rfl, rfl, _, rfl, ?_⟩⟩
                    have g9 := gm g8 s9 bg9
                    refine ite2 (fun _ => ⟨_, rfl, k' _ _ ⟨g9, has, rfl, by omega, by omega⟩⟩) (fun _ => ?_)
                    exact ⟨_, rfl, _, rfl, b, c, has, rfl, bg9, hpos, by omega, fun q8 H10 s10 bg10 q80 q81 => ⟨_, _, rfl, rfl, k' _ _ ⟨gm g9 s10 bg10, 1 + q8, rfl, by omega, by omega⟩⟩⟩
                  · obtain ⟨g9, tk, rfl, h0, h1⟩ := gg
                    exact kk2 _ _ ⟨⟨tk, rfl, h0, h1⟩, g9⟩
                · obtain ⟨⟨tk, rfl, tk0, tk1⟩, g9⟩ := pp9
                  obtain ⟨s9, bg9, vs, st, eF, pv9, gd9, l9⟩ := g9
                  refine ⟨_, rfl, .inl ⟨rfl, _, SqL.of eF⟩, _, rfl, _, rfl, _, rfl, by show 3 ≤ sizeLine; decide, fun pk hpk => ⟨_, rfl, by show 2 ≤ sizeLine; decide, fun pe hpe => ?_⟩⟩
                  have k1 : Same H9 (upd H9 pk (.tup [.str y.nm, .int (p : Int), .int (j : Int)])) := Same.new hpk
                  have k2 : Same _ (upd (upd H9 pk (.tup [.str y.nm, .int (p : Int), .int (j : Int)])) pe (.tup [.ref pk, .int tk])) := Same.new hpe
                  have k12 := k1.trans k2
                  have eF2 := k12 _ _ eF
                  have lvs : vs.length = st.length := (Paired.length pv9).symm
                  have i4 : i * 30 ≤ 4 * 30 := Nat.mul_le_mul_right _ (by omega)
                  have j3 : j * 10 ≤ 3 * 10 := Nat.mul_le_mul_right _ (by omega)
                  refine ⟨F, vs, _, rfl, rfl, eF2, smallL (by omega), ?_⟩
                  have tkk : TK H9 (upd (upd (upd H9 pk (.tup [.str y.nm, .int (p : Int), .int (j : Int)])) pe (.tup [.ref pk, .int tk])) F (.lst (vs ++ [.ref pe]))) := k12.tk.trans (TK.lst eF2)
                  refine ⟨_, rfl, _, rfl, _, _, rfl, rfl, kk _ _ ⟨⟨some (.int tk), has - tk, rfl, by omega⟩, ?_⟩⟩
                  refine ⟨(s9.trans (same_sx k12)).mut hF, (bg9.m k12).upd Fb Fc, vs ++ [.ref pe], st ++ [([Sum.inr y.nm, Sum.inl (p : Int), Sum.inl (j : Int)], tk)], upd_same, ?_, ?_, ?_⟩
                  · exact Paired.append (PrsAt.m pv9 tkk) (.cons ⟨pe, rfl, pk, (TK.lst eF2) _ _ upd_same, (TK.lst eF2) _ _ (k2 _ _ upd_same)⟩ .nil)
                  · intro e he
                    rcases List.mem_append.mp he with he | he
                    · exact gd9 e he
                    · simp at he
                      subst he
                      exact ⟨key3_ok nmok.2 (by omega) (by omega), tk0, by show tk ≤ 1000; omega⟩
                  · rw [List.length_append, List.length_singleton]
                    omega
            · obtain ⟨⟨o13', has', rfl, hh'⟩, g8⟩ := pp8
              refine ⟨_, rfl, _, rfl, _, rfl, _, _, rfl, rfl, _, _, rfl, ⟨⟨_, _, _, rfl, ?_⟩, g8⟩⟩
              split <;> omega
          · obtain ⟨⟨o12, o13, has, rfl, hhas⟩, g6⟩ := p'
            exact ⟨⟨_, _, _, _, _, _, _, rfl⟩, gl g6 (by rw [Nat.succ_mul]; omega)⟩
    · obtain ⟨⟨o7, o8, o9, o10, o11, o12, o13, rfl⟩, g3⟩ := p
      have : y.ps.length * 10 ≤ 3 * 10 := Nat.mul_le_mul_right _ sm.2.1
      exact ⟨⟨_, _, _, _, _, _, _, _, _, _, rfl⟩, gl g3 (by rw [Nat.succ_mul]; omega)⟩
  · obtain ⟨⟨o4, o5, o6, o7, o8, o9, o10, o11, o12, o13, rfl⟩, g1⟩ := p
    obtain ⟨s1, bg1, vs, st, eF, pv1, gd1, l1⟩ := g1
    have lm : h.ms.length * 30 ≤ 4 * 30 := Nat.mul_le_mul_right _ n4
    have lvs : vs.length = st.length := (Paired.length pv1).symm
    refine ⟨_, rfl, _, rfl, b, c, F, vs, rfl, bg1, eF, Fb, by omega, fun pX H2 ys s2 bg2 hpX eX perm => ?_⟩
    obtain ⟨st', ps', pv2⟩ := PrsAt.shuf (PrsAt.m pv1 (bg1.tk s2)) perm
    refine dictT_good eX pv2 (fun e he => gd1 e (ps'.mem_iff.mp he)) (by rw [ps'.length_eq]; omega) fun p H' st'' sx hp e g => q p H' st'' ((s1.trans s2).trans (same_sx sx)) (bg2.m sx) (fun z => by subst z; exact bg2.there.1 hp) e g
def sp__law_any_stops : Sp := fun vs H Q _ => ∃ (b c : Addr) (v : V) (many : Nat) (h : Hall), vs = [.ref b, v, .int (many : Int)] ∧ BagAt H b c ∧ Tv H v h.py ∧ h.Ok ∧ many ≤ 10 ∧ ∀ p H' st, Sx (S1 b) H H' → BagAt H' b c → p ≠ b → H' p = some (.dT (stK st)) → StGood st 1020 → Q (.ref p) H'
theorem c__law_any_stops (T : Txt K mg) : Cal P w K mg base 4 "_law_any_stops" (sp__law_any_stops) [] := by
  refine cal_of T.d__law_any_stops sc__law_any_stops (fun vs H Q E h => by first | (obtain ⟨_, rfl, _⟩ := h; rfl) | (obtain ⟨_, _, rfl, _⟩ := h; rfl) | (obtain ⟨_, _, _, rfl, _⟩ := h; rfl) | (obtain ⟨_, _, _, _, rfl, _⟩ := h; rfl) | (obtain ⟨_, _, _, _, _, rfl, _⟩ := h; rfl) | (obtain ⟨_, _, _, _, _, _, rfl, _⟩ := h; rfl) | (obtain ⟨_, _, _, _, _, _, _, rfl, _⟩ := h; rfl) | (obtain ⟨_, _, _, _, _, _, _, _, rfl, _⟩ := h; rfl) | (obtain ⟨_, _, _, _, _, _, _, _, _, rfl, _⟩ := h; rfl) | (obtain ⟨_, _, _, _, _, _, _, _, _, _, rfl, _⟩ := h; rfl) | (obtain ⟨_, _, _, _, _, _, _, _, _, _, _, rfl, _⟩ := h; rfl) | (obtain ⟨_, _, _, _, _, _, _, _, _, _, _, _, rfl, _⟩ := h; rfl)) bi__law_any_stops (fun f cdv A outer s H vs Q E hr hsp => ?_)
  have hu := hu_of hr
  have hu64 := hr.units
  have hu2 := hu2_of hr
  have hu80 := hu80_of hr
  have nd := sc__law_any_stops.nd
  refine ⟨_, (pss_cons (ps_set (i := 3) nd rfl (by first | exact Or.inl rfl | exact Or.inr rfl) (pe_c (c__law_stops T) hr (by decide) rfl (pa_cons (pv 0) (pa_cons (pv 1) (pa_cons (pv 2) pa_nil)))))
    (pss_cons (ps_if (pt_cmpR op_gt (pe_c (c__law_take T) hr (by decide) rfl (pa_cons (pv 0) (pa_cons pe_int pa_nil))) pe_int (nomark _)) (pss_one (ps_ret (pv 3))) pss_nil)
    (pss_one (ps_ret (pe_callTy (cr_dictT rfl hu80) (by rfl) T.b_dict (by decide +kernel) (pa_cons (pe_lock (pe_lc (own := [("_law_key", 4)]) rfl nd (pi_keys (pv 3)) (blkOk_by (own := [("_law_key", 4)]) (N := n__law_any_stops) (sc := defScope s__law_any_stops) (by decide +kernel)) (fun _ _ _ _ _ => (pg_name (i := 4) nd rfl (by first | exact Or.inl rfl | exact Or.inr rfl))) (fun _ _ _ _ _ => pts_nil) (fun _ _ _ _ _ => (pe_tup (pa_cons (pv 4) (pa_cons (pe_op op_add (pe_dget hu (pv 3) (pv 4) (fun _ _ => rfl)) (pe_c (c__law_some T) hr (by decide) rfl (pa_cons (pv 0) (pa_cons (pe_lst (pa_cons pe_int (pa_cons pe_int (pa_cons pe_int (pa_cons pe_int pa_nil))))) pa_nil)))) pa_nil)))))) pa_nil)))))), ?_⟩
  obtain ⟨b, c, v, many, h, rfl, bg, tv, ok, hm, q⟩ := hsp
  refine ⟨_, rfl, _, rfl, _, rfl, b, c, v, many, h, rfl, bg, tv, ok, hm, fun d H1 st s1 bg1 hdb ed gd => ?_⟩
  refine ⟨_, rfl, b, c, 3, rfl, bg1, by decide, by decide, fun j H2 s2 bg2 _ _ => ⟨_, _, rfl, rfl, _, rfl, ?_⟩⟩
  have ed2 := s2 d _ hdb ed
  have s12 := s1.trans s2
  refine ite2 (fun _ => ⟨_, rfl, q d _ st s12 bg2 hdb ed2 ⟨fun e he => ⟨(gd.ok e he).1, (gd.ok e he).2.1, Int.le_trans (gd.ok e he).2.2 (by decide)⟩, gd.len⟩⟩) (fun _ => ?_)
  refine ⟨d, _, ed2, trivial, fun od => ⟨_, rfl, d, od, rfl, .inr ⟨_, upd_same, fun D hD => ?_⟩⟩⟩
  have hdc : d ≠ c := fun z => by
    obtain ⟨x0, x1, x2, ns, h1, h2, _⟩ := bg2.ex
    subst z
    rw [h2] at ed2
    cases ed2
  have eF := upd_same (H := H2) (a := d) (o := .frz od (.dT (stK st)))
  have bgL : BagAt (upd H2 d (.frz od (.dT (stK st)))) b c := bg2.upd hdb hdc
  have tkL : TK H2 (upd H2 d (.frz od (.dT (stK st)))) := lock_tk ed2 (by intro xs z; cases z)
  have back : ∀ H', Sx (S1 b) (upd H2 d (.frz od (.dT (stK st)))) H' → Sx (S1 b) H2 (upd H' d (.dT (stK st))) := fun H' s x o hx e => by
    by_cases cc : x = d
    · subst cc
      rw [ed2] at e
      cases e
      exact upd_same
    · rw [upd_ne cc]
      exact s x o hx (by rw [upd_ne cc]; exact e)
  have Dd : D ≠ d := fun z => by subst z; rw [hD] at eF; cases eF
  have lst' : (stK st).length = st.length := by rw [stK, List.length_map]
  generalize hHL : upd H2 d (.frz od (.dT (stK st))) = HL at hD eF bgL tkL back ⊢
  have wk := walk_keysT (d := d) (o := od) (kvs := stK st)
  have th := bgL.there
  refine lc_gen wk hD (S1 b) (fun a z => by cases (show a = b from z); exact th.1) (fun H => BagAt H b c) bgL (fun H D' o hD' x => x.upd (fun z => by subst z; exact th.1 hD') (fun z => by subst z; exact th.2 hD')) (fun H s _ => s d _ hdb eF) (fun H H' x s => x.tk s) (fun _ => true)
    (fun i y H => ∃ (e : List Key × Int) (p : Addr), st[i]? = some e ∧ y = .ref p ∧ ∃ v : Int, PairT H p (e.1, .int v) ∧ 0 ≤ v ∧ v ≤ 1020) (fun i y H H' k ⟨e, p, h1, h2, v, h3, h4⟩ => ⟨e, p, h1, h2, v, PairT.m h3 k, h4⟩) (by have := gd.len; omega) (fun i x H3 H' hi s bg3 hy N R _ r' => ?_) (fun H3 ys s3 bg3 e3 t3 => ?_)
  · obtain ⟨rfl, k, vv, kq, hk, rfl, hkq⟩ := hy
    rw [lst'] at hi
    have ei : st[i]? = some st[i] := List.getElem?_eq_getElem hi
    rw [stK, List.getElem?_map, ei] at hk
    cases hk
    have em := List.getElem_mem hi
    generalize st[i] = e at ei em hkq
    have ge := gd.ok e em
    have hv : ∃ v0 : Int, lkT st e.1 = some v0 ∧ 0 ≤ v0 ∧ v0 ≤ 1000 := by
      unfold lkT
      cases hf : st.find? (fun x => decide (x.1 = e.1)) with
      | none =>
        exfalso
        have := List.find?_eq_none.mp hf e em
        simp at this
      | some e0 =>
        have := gd.ok e0 (List.mem_of_find?_eq_some hf)
        exact ⟨e0.2, rfl, this.2⟩
    obtain ⟨v0, hv0, v00, v01⟩ := hv
    refine ⟨rfl, yesT ⟨_, rfl, _, rfl, _, rfl, d, .int v0, rfl, .inr ⟨_, e.1, kq, .inr ⟨od, s d _ hdb eF⟩, rfl, hkq, by rw [valV_stK, hv0]; rfl⟩, _, rfl, by show 4 ≤ sizeLine; decide, fun p5 hp5 => ?_⟩⟩
    have k5 : Same H' (upd H' p5 (.lst [.int 0, .int 0, .int 1, .int 20])) := Same.new hp5
    refine ⟨b, c, p5, _, rfl, bg3.m k5, upd_same, fun z => by subst z; exact bg3.there.1 hp5, by simp, by simp, fun v5 H5 s5 bg5 hvs => ?_⟩
    obtain ⟨av, rfl, ha0, ha1⟩ : ∃ av : Int, v5 = .int av ∧ 0 ≤ av ∧ av ≤ 20 := by
      simp only [List.mem_cons, List.not_mem_nil, or_false] at hvs
      rcases hvs with rfl | rfl | rfl | rfl
      · exact ⟨0, rfl, by omega⟩
      · exact ⟨0, rfl, by omega⟩
      · exact ⟨1, rfl, by omega⟩
      · exact ⟨20, rfl, by omega⟩
    have sx5 := (same_sx k5).trans s5
    have hkq5 := (bg3.tk sx5) _ _ hkq
    refine ⟨v0, av, rfl, rfl, by show 2 ≤ sizeLine; decide, fun p6 hp6 => ?_⟩
    have k6 : Same H5 (upd H5 p6 (.tup [.ref kq, .int (v0 + av)])) := Same.new hp6
    exact r' _ _ (sx5.trans (same_sx k6)) (bg5.m k6) rfl ⟨e, p6, ei, rfl, v0 + av, ⟨kq, upd_same, k6 _ _ hkq5⟩, by omega, by omega⟩
  · rw [flt_true] at t3
    have aux : ∀ {l : List Nat} {ys : List V}, Paired (fun i y => ∃ (e : List Key × Int) (p : Addr), st[i]? = some e ∧ y = .ref p ∧ ∃ v : Int, PairT H3 p (e.1, .int v) ∧ 0 ≤ v ∧ v ≤ 1020) l ys →
        ∃ st2 : StT, PrsAt H3 ys st2 ∧ st2.length = l.length ∧ ∀ e ∈ st2, KeyOk e.1 ∧ 0 ≤ e.2 ∧ e.2 ≤ 1020 := by
      intro l ys h
      induction h with
      | nil => exact ⟨[], .nil, rfl, fun e he => by cases he⟩
      | cons h _ ih =>
        obtain ⟨st2, h1, h2, h3⟩ := ih
        obtain ⟨e, p, h4, rfl, v, h5, h6⟩ := h
        refine ⟨(e.1, v) :: st2, .cons ⟨p, rfl, h5⟩ h1, by simp [h2], fun x hx => ?_⟩
        rcases List.mem_cons.mp hx with rfl | hx
        · exact ⟨(gd.ok e (List.mem_of_getElem? h4)).1, h6⟩
        · exact h3 x hx
    obtain ⟨st2, h1, h2, h3⟩ := aux t3
    rw [List.length_range, lst'] at h2
    have eF3 := s3 d _ hdb eF
    have tkU : TK H3 (upd H3 d (.dT (stK st))) := lock_tk eF3 (by intro xs z; cases z)
    have eD3 : (upd H3 d (.dT (stK st))) D = some (.lst ys) := by rw [upd_ne Dd]; exact e3
    have bgU : BagAt (upd H3 d (.dT (stK st))) b c := bg3.upd hdb hdc
    have sU := s12.trans (back _ s3)
    refine ⟨eF3, dictT_good eD3 (PrsAt.m h1 tkU) h3 (by have := gd.len; omega) fun p H' st'' sx hp e g => q p H' st'' (sU.trans (same_sx sx)) (bgU.m sx) (fun z => by subst z; exact bgU.there.1 hp) e g⟩
def sp__law_floors : Sp := fun vs H Q _ => ∃ (b c : Addr) (v : V) (many : Nat) (h : Hall), vs = [.ref b, v, .int (many : Int)] ∧ BagAt H b c ∧ Tv H v h.py ∧ h.Ok ∧ many ≤ 10 ∧ ∀ p H' st, Sx (S1 b) H H' → BagAt H' b c → p ≠ b → H' p = some (.dT (stK st)) → StGood st 99 → Q (.ref p) H'
theorem c__law_floors (T : Txt K mg) : Cal P w K mg base 3 "_law_floors" (sp__law_floors) [] := by
  refine cal_of T.d__law_floors sc__law_floors (fun vs H Q E h => by first | (obtain ⟨_, rfl, _⟩ := h; rfl) | (obtain ⟨_, _, rfl, _⟩ := h; rfl) | (obtain ⟨_, _, _, rfl, _⟩ := h; rfl) | (obtain ⟨_, _, _, _, rfl, _⟩ := h; rfl) | (obtain ⟨_, _, _, _, _, rfl, _⟩ := h; rfl) | (obtain ⟨_, _, _, _, _, _, rfl, _⟩ := h; rfl) | (obtain ⟨_, _, _, _, _, _, _, rfl, _⟩ := h; rfl) | (obtain ⟨_, _, _, _, _, _, _, _, rfl, _⟩ := h; rfl) | (obtain ⟨_, _, _, _, _, _, _, _, _, rfl, _⟩ := h; rfl) | (obtain ⟨_, _, _, _, _, _, _, _, _, _, rfl, _⟩ := h; rfl) | (obtain ⟨_, _, _, _, _, _, _, _, _, _, _, rfl, _⟩ := h; rfl) | (obtain ⟨_, _, _, _, _, _, _, _, _, _, _, _, rfl, _⟩ := h; rfl)) bi__law_floors (fun f cdv A outer s H vs Q E hr hsp => ?_)
  have hu := hu_of hr
  have hu64 := hr.units
  have hu2 := hu2_of hr
  have hu80 := hu80_of hr
  have nd := sc__law_floors.nd
  refine ⟨_, (pss_cons (ps_set (i := 3) nd rfl (by first | exact Or.inl rfl | exact Or.inr rfl) pe_dnewT)
    (pss_cons (ps_for PassesOwn.never rfl (pi_range1 (by rfl) T.b_range (pa_cons (pe_c (c__law_take T) hr (by decide) rfl (pa_cons (pv 0) (pa_cons pe_int pa_nil))) pa_nil)) (pg_name (i := 4) nd rfl (by first | exact Or.inl rfl | exact Or.inr rfl)) (pss_one (ps_dput hu (pv 3) (pe_tup (pa_cons (pe_c (c__law_some T) hr (by decide) rfl (pa_cons (pv 0) (pa_cons (pe_c (c__law_names T) hr (by decide) rfl (pa_cons (pv 1) pa_nil)) pa_nil))) (pa_cons (pe_c (c__law_take T) hr (by decide) rfl (pa_cons (pv 0) (pa_cons (pe_op op_add (pv 2) pe_int) pa_nil))) pa_nil))) (pe_c (c__law_some T) hr (by decide) rfl (pa_cons (pv 0) (pa_cons (pe_lst (pa_cons pe_int (pa_cons (pe_c (c__law_take T) hr (by decide) rfl (pa_cons (pv 0) (pa_cons pe_int pa_nil))) (pa_cons (pe_c (c__law_take T) hr (by decide) rfl (pa_cons (pv 0) (pa_cons pe_int pa_nil))) (pa_cons pe_int pa_nil))))) pa_nil))) rfl)))
    (pss_one (ps_ret (pe_callTy (cr_dictT rfl hu80) (by rfl) T.b_dict (by decide +kernel) (pa_cons (pe_c (c__law_mixed T) hr (by decide) rfl (pa_cons (pv 0) (pa_cons (pe_listItemsT rfl (pv 3) (by rfl) T.b_list (by decide +kernel)) pa_nil))) pa_nil)))))), ?_⟩
  obtain ⟨b, c, v, many, h, rfl, bg, tv, ok, hm, q⟩ := hsp
  refine fun F hF => ?_
  have k0 : Same H (upd H F (.dT [])) := Same.new hF
  have Fb : F ≠ b := fun z => by subst z; exact bg.there.1 hF
  have Fc : F ≠ c := fun z => by subst z; exact bg.there.2 hF
  refine ⟨_, rfl, b, c, 5, rfl, bg.m k0, by decide, by decide, fun tn H1 s1 bg1 t0 t1 => ⟨_, rfl, by omega, by omega, ?_⟩⟩
  have n4 := ok.n4
  have s01 := (same_sx k0).trans s1
  refine for_it (walk_range (lo := 0) (n := tn.toNat)) (fun i σ H' => (∃ o4, σ = [some (.ref b), some v, some (.int (many : Int)), some (.ref F), o4]) ∧ Sx (S1 b) H H' ∧ BagAt H' b c ∧ ∃ st : StT, H' F = some (.dT (stK st)) ∧ (∀ e ∈ st, KeyOk e.1 ∧ 0 ≤ e.2 ∧ e.2 ≤ 99) ∧ st.length ≤ i)
    ⟨⟨_, rfl⟩, s01, bg1, [], s1 F _ Fb upd_same, fun e he => (by cases he), Nat.zero_le _⟩ (fun _ _ _ _ _ => trivial) (fun i x σ H2 H3 hi p hy => ?_) (fun σ H2 p => ?_)
  · obtain ⟨⟨o4, rfl⟩, s2, bg2, st, eF, gd, ls⟩ := p
    obtain ⟨rfl, rfl⟩ := hy
    refine ⟨_, rfl, _, rfl, b, c, 30, rfl, bg2, by decide, by decide, fun a1 H4 s4 bg4 a10 a11 => ⟨_, rfl, b, c, 9, rfl, bg4, by decide, by decide, fun a2 H5 s5 bg5 a20 a21 => ⟨by show 4 ≤ sizeLine; decide, fun p5 hp5 => ?_⟩⟩⟩
    have k5 : Same H5 (upd H5 p5 (.lst [.int 0, .int a1, .int a2, .int 99])) := Same.new hp5
    refine ⟨b, c, p5, _, rfl, bg5.m k5, upd_same, fun z => by subst z; exact bg5.there.1 hp5, by simp, by simp, fun v5 H6 s6 bg6 hvs => ?_⟩
    obtain ⟨fv, rfl, hf0, hf1⟩ : ∃ fv : Int, v5 = .int fv ∧ 0 ≤ fv ∧ fv ≤ 99 := by
      simp only [List.mem_cons, List.not_mem_nil, or_false] at hvs
      rcases hvs with rfl | rfl | rfl | rfl
      · exact ⟨0, rfl, by omega⟩
      · exact ⟨a1, rfl, by omega⟩
      · exact ⟨a2, rfl, by omega⟩
      · exact ⟨99, rfl, by omega⟩
    have sx6 := ((s4.trans s5).trans (same_sx k5)).trans s6
    have s26 := s2.trans sx6
    have tv6 : Tv H6 v h.py := tv.m (bg.tk s26)
    refine ⟨_, rfl, _, rfl, _, rfl, v, h, rfl, tv6, by omega, fun pN H7 s7 hpN eN => ⟨b, c, pN, _, rfl, bg6.m s7, eN, fun z => by subst z; exact bg6.there.1 hpN, by rw [List.length_map, Hall.names, List.length_map]; exact ok.n1, by rw [List.length_map, Hall.names, List.length_map]; omega, fun vn H8 s8 bg8 hvn => ?_⟩⟩
    obtain ⟨n, hn, rfl⟩ := List.mem_map.mp hvn
    refine ⟨_, rfl, _, rfl, _, _, rfl, rfl, b, c, _, rfl, bg8, by omega, by omega, fun pc H9 s9 bg9 pc0 pc1 => ⟨by show 2 ≤ sizeLine; decide, fun pk hpk => ?_⟩⟩
    have kk : Same H9 (upd H9 pk (.tup [.str n, .int pc])) := Same.new hpk
    have sxF := (((sx6.trans (same_sx s7)).trans s8).trans s9).trans (same_sx kk)
    have eF9 := sxF F _ Fb eF
    refine ⟨F, _, rfl, DPut.t (k := [Sum.inr n, Sum.inl pc]) eF9 upd_same (by rw [stK, List.length_map]; exact smallL (by omega)), ?_⟩
    rw [← stP_K]
    refine ⟨⟨_, rfl⟩, (s2.trans sxF).mut hF, (bg9.m kk).upd Fb Fc, _, upd_same, fun e he => ?_, Nat.le_trans (stP_len _ _ _) (by omega)⟩
    rcases stP_mem he with he | rfl
    · exact gd e he
    · exact ⟨key2_ok (ok.str n hn).2 (by omega), hf0, hf1⟩
  · obtain ⟨⟨o4, rfl⟩, s2, bg2, st, eF, gd, ls⟩ := p
    refine ⟨_, rfl, _, rfl, F, stK st, rfl, eF, fun H3 p3 ts s3 hp3 e3 pt => ?_⟩
    have lts : ts.length = st.length := by rw [Paired.length pt, stK, List.length_map]
    have ppr : PrsAt H3 (ts.map V.ref) st := by
      have aux : ∀ {ts : List Addr} {st : StT}, Paired (PairT H3) ts (stK st) → PrsAt H3 (ts.map V.ref) st := by
        intro ts st
        induction st generalizing ts with
        | nil => intro h; cases h; exact .nil
        | cons e st ih =>
          intro h
          cases h with
          | cons h1 h2 => exact .cons ⟨_, rfl, h1⟩ (ih h2)
      exact aux pt
    refine ⟨b, c, p3, _, rfl, bg2.m s3, e3, fun z => by subst z; exact bg2.there.1 hp3, by rw [List.length_map]; omega, fun pX H4 ys s4 bg4 hpX eX perm => ?_⟩
    obtain ⟨st', ps', pv2⟩ := PrsAt.shuf (PrsAt.m ppr ((bg2.m s3).tk s4)) perm
    exact dictT_good eX pv2 (fun e he => gd e (ps'.mem_iff.mp he)) (by rw [ps'.length_eq]; omega) fun p H' st'' sx hp e g => q p H' st'' (((s2.trans (same_sx s3)).trans s4).trans (same_sx sx)) (bg4.m sx) (fun z => by subst z; exact bg4.there.1 hp) e g
end
end K41
/-! told alike -/
namespace K41
open PySem PySem.Spec PyProof.Rows L2
open C8 (Cal pe_c)
def rReprA : List V → Hp → VK → Prop := fun vs H Q => rReprL vs H Q ∨ rRepr1 vs H Q
theorem cr_repr_ {X : Cx} (hu : X.A.units + 64 < cLine) (hg : X.A.guards = some []) : CallR X (.builtin "repr") rReprA := by
  intro pins s σ H vs us Q I r h
  rcases h with h | h
  · exact cr_reprL hu hg pins s σ H vs us Q I r h
  · exact cr_repr1 hu hg pins s σ H vs us Q I r h
structure RunOk (ns : List Str) (many : Nat) (R : Str → Nat → Int) : Prop where
  str : ∀ n ∈ ns, PyData.strOk n = true ∧ (reprText n).length ≤ 60
  nd : ns.Nodup
  len : ns.length ≤ 4
  mn : many ≤ 10
  val : ∀ n ∈ ns, ∀ p, p < many → (R n p).natAbs < 10 ^ 18
def runE (ns : List Str) (many : Nat) (R : Str → Nat → Int) : List (Key × PyData) := ns.map fun n => (Sum.inr n, rowD R many n)
def runD (ns : List Str) (many : Nat) (R : Str → Nat → Int) : PyData := .dict ((runE ns many R).map fun e => (kD e.1, e.2))
theorem run_rd1 {H : Hp} {a : Addr} {ns : List Str} {many : Nat} {R : Str → Nat → Int} (ra : RunAt H a ns many R) : Rd1 H (.ref a) (runD ns many R) := by
  obtain ⟨kvs, e, p⟩ := ra
  refine .dk e ?_
  unfold runE
  clear e
  induction p with
  | nil => exact .nil
  | cons h _ ih => exact .cons ⟨h.1, h.2⟩ ih
theorem bd_row {ns : List Str} {many : Nat} {R : Str → Nat → Int} (o : RunOk ns many R) {n : Str} (hn : n ∈ ns) : Bd (rowD R many n) 300 2 := by
  have := bd_tuple (ds := (rowI R n many).map PyData.int) (n := 19) (k := 1) fun d hd => by
    obtain ⟨i, hi, rfl⟩ := List.mem_map.mp hd
    rw [rowI] at hi
    obtain ⟨p, hp, rfl⟩ := List.mem_map.mp hi
    exact bd_int (o.val n hn p (List.mem_range.mp hp))
  refine this.mono ?_ (by decide)
  rw [List.length_map, rowI_len]
  have := o.mn
  have h2 : many * 21 ≤ 10 * 21 := Nat.mul_le_mul_right _ this
  omega
theorem bd_run {ns : List Str} {many : Nat} {R : Str → Nat → Int} (o : RunOk ns many R) : Bd (runD ns many R) 3000 3 := by
  have := bd_dict (kvs := (runE ns many R).map fun e => (kD e.1, e.2)) (n := 60) (m := 300) (k := 2) fun d hd => by
    obtain ⟨e, he, rfl⟩ := List.mem_map.mp hd
    obtain ⟨n, hn, rfl⟩ := List.mem_map.mp he
    exact ⟨(bd_str (o.str n hn).2).mono (Nat.le_refl _) (by decide), bd_row o hn⟩
  refine this.mono ?_ (by decide)
  rw [List.length_map, runE, List.length_map]
  have h2 : ns.length * (60 + 300 + 4) ≤ 4 * (60 + 300 + 4) := Nat.mul_le_mul_right _ o.len
  omega
theorem row_sm (R : Str → Nat → Int) (many : Nat) (n : Str) : Sm (rowD R many n) 2 := sm_tuple fun d hd => by
  obtain ⟨i, _, rfl⟩ := List.mem_map.mp hd
  exact sm_int
theorem mem_keys {ns : List Str} {kvs : List (Key × V)} {G : Str → V → Prop} (p : Paired (fun n (q : Key × V) => q.1 = Sum.inr n ∧ G n q.2) ns kvs) : ∀ q ∈ kvs, ∃ n ∈ ns, q.1 = Sum.inr n ∧ G n q.2 := by
  induction p with
  | nil => intro q hq; cases hq
  | cons h _ ih =>
    intro q hq
    rcases List.mem_cons.mp hq with rfl | hq
    · exact ⟨_, List.mem_cons_self, h⟩
    · obtain ⟨n, hn, h2⟩ := ih q hq
      exact ⟨n, List.mem_cons_of_mem _ hn, h2⟩
theorem run_eqR {K : PySem.W.Frag} {H : Hp} {a b : Addr} {ns : List Str} {many : Nat} {R : Str → Nat → Int} (ra : RunAt H a ns many R) (rb : RunAt H b ns many R) : EqR K H (SameD H) (.ref a) (.ref b) := by
  obtain ⟨ka, ea, pa'⟩ := ra
  obtain ⟨kb, eb, pb⟩ := rb
  refine .inr ⟨a, b, ka, kb, rfl, rfl, ea, eb, by rw [← Paired.length pa', Paired.length pb], fun q hq => ?_⟩
  obtain ⟨n, hn, h1, h2⟩ := mem_keys (G := fun n v => Tv H v (rowD R many n)) pa' q hq
  obtain ⟨u, h3, h4⟩ := keys_get (G := fun n v => Tv H v (rowD R many n)) pb hn
  have sm := row_sm R many n
  exact ⟨u, by rw [h1]; exact h3, rowD R many n, h2, h4, sm.lay, Nat.le_trans sm.dep (by decide)⟩
section
variable {P : Program} {w : World} {K : PySem.W.Frag} {mg : Str → Option Value} {base : Heap}
def sp__law_alike : Sp := fun vs H Q _ => ∃ (a b : Addr), vs = [.ref a, .ref b] ∧ ((∃ ns many R, RunAt H a ns many R ∧ RunAt H b ns many R ∧ RunOk ns many R) ∨
  ∃ a1 a2 b1 b2 ns many R R', H a = some (.lst [.ref a1, .ref a2]) ∧ H b = some (.lst [.ref b1, .ref b2]) ∧ RunAt H a1 ns many R ∧ RunAt H b1 ns many R ∧ RunAt H a2 ns many R' ∧ RunAt H b2 ns many R' ∧ RunOk ns many R ∧ RunOk ns many R') ∧ Q (.bl true) H
theorem c__law_alike (T : Txt K mg) : CalG P w K mg base 1 "_law_alike" (sp__law_alike) := by
  refine calG_of T.d__law_alike sc__law_alike (fun vs H Q E h => by first | (obtain ⟨_, rfl, _⟩ := h; rfl) | (obtain ⟨_, _, rfl, _⟩ := h; rfl) | (obtain ⟨_, _, _, rfl, _⟩ := h; rfl) | (obtain ⟨_, _, _, _, rfl, _⟩ := h; rfl) | (obtain ⟨_, _, _, _, _, rfl, _⟩ := h; rfl) | (obtain ⟨_, _, _, _, _, _, rfl, _⟩ := h; rfl) | (obtain ⟨_, _, _, _, _, _, _, rfl, _⟩ := h; rfl) | (obtain ⟨_, _, _, _, _, _, _, _, rfl, _⟩ := h; rfl) | (obtain ⟨_, _, _, _, _, _, _, _, _, rfl, _⟩ := h; rfl) | (obtain ⟨_, _, _, _, _, _, _, _, _, _, rfl, _⟩ := h; rfl) | (obtain ⟨_, _, _, _, _, _, _, _, _, _, _, rfl, _⟩ := h; rfl) | (obtain ⟨_, _, _, _, _, _, _, _, _, _, _, _, rfl, _⟩ := h; rfl)) bi__law_alike (fun f cdv A outer s H vs Q E gd hr hsp => ?_)
  have hu := hu_of hr
  have hu64 := hr.units
  have hu2 := hu2_of hr
  have hu80 := hu80_of hr
  have nd := sc__law_alike.nd
  refine ⟨_, (pss_one (ps_ret (pe_and (pe_cmpR (op_eqDs hu80) (pv 0) (pv 1) (nomark _)) (pe_one (pe_cmpR op_eq (pe_callB (cr_repr_ hu64 gd) (by rfl) T.b_repr (by decide +kernel) (pa_cons (pv 0) pa_nil)) (pe_callB (cr_repr_ hu64 gd) (by rfl) T.b_repr (by decide +kernel) (pa_cons (pv 1) pa_nil)) (nomark _)))))), ?_⟩
  obtain ⟨a, b, rfl, h, q⟩ := hsp
  rcases h with ⟨ns, many, R, ra, rb, ok⟩ | ⟨a1, a2, b1, b2, ns, many, R, R', ea, eb, r1, r2, r3, r4, ok1, ok2⟩
  · refine ⟨_, rfl, _, rfl, .inl (run_eqR ra rb), _, rfl, iteT ?_⟩
    refine ⟨_, rfl, .inr ⟨a, _, 3000, 3, rfl, run_rd1 ra, bd_run ok, by decide, by decide, _, rfl, .inr ⟨b, _, 3000, 3, rfl, run_rd1 rb, bd_run ok, by decide, by decide, rfl, ?_⟩⟩⟩
    rw [decide_eq_true rfl]
    exact q
  · have e12 : EqDs K H (.ref a) (.ref b) := .inr (.inl ⟨a, b, _, _, rfl, rfl, SqL.of ea, SqL.of eb, .cons (run_eqR r1 r2) (.cons (run_eqR r3 r4) .nil)⟩)
    have bd : Bd (.list [runD ns many R, runD ns many R']) 7000 4 := (bd_list (n := 3000) (k := 3) (two_mem (bd_run ok1) (bd_run ok2))).mono (show 2 * (3000 + 2) + 2 ≤ 7000 by decide) (by decide)
    refine ⟨_, rfl, _, rfl, e12, _, rfl, iteT ?_⟩
    refine ⟨_, rfl, .inl ⟨a, _, [runD ns many R, runD ns many R'], 7000, 4, rfl, ea, .cons (run_rd1 r1) (.cons (run_rd1 r3) .nil), bd, by decide, by decide, _, rfl, .inl ⟨b, _, [runD ns many R, runD ns many R'], 7000, 4, rfl, eb, .cons (run_rd1 r2) (.cons (run_rd1 r4) .nil), bd, by decide, by decide, rfl, ?_⟩⟩⟩
    rw [decide_eq_true rfl]
    exact q
end
/-! ### what is shown of halls, stops, floors -/
theorem bd_hall {h : Hall} (ok : h.Ok) : Bd h.py 100000 6 := by
  have pr : ∀ m ∈ h.ms, Bd (.tuple (m.ps.map prD)) 200 3 := fun m hm => by
    have sm := ok.small m hm
    have := bd_tuple (ds := m.ps.map prD) (n := 45) (k := 2) fun d hd => by
      obtain ⟨p, hp, rfl⟩ := List.mem_map.mp hd
      have := sm.2.2 p hp
      exact (bd_tuple (n := 19) (k := 1) (two_mem (bd_int (Nat.lt_of_le_of_lt this.1 (by decide))) (bd_int (Nat.lt_of_le_of_lt this.2.2.1 (by decide))))).mono (show 2 * (19 + 2) + 3 ≤ 45 by decide) (by decide)
    refine this.mono ?_ (by decide)
    rw [List.length_map]
    have : m.ps.length * 47 ≤ 3 * 47 := Nat.mul_le_mul_right _ sm.2.1
    omega
  have bm : Bd (.tuple (h.ms.map Mach.py)) 3000 5 := by
    have := bd_tuple (ds := h.ms.map Mach.py) (n := 700) (k := 4) fun d hd => by
      obtain ⟨m, hm, rfl⟩ := List.mem_map.mp hd
      refine (bd_tuple (n := 200) (k := 3) fun d hd => ?_).mono (show 3 * (200 + 2) + 3 ≤ 700 by decide) (by decide)
      simp only [List.mem_cons, List.not_mem_nil, or_false] at hd
      rcases hd with rfl | rfl | rfl
      · exact (bd_str (ok.str m.nm (List.mem_map.mpr ⟨m, hm, rfl⟩)).2).mono (by decide) (by decide)
      · exact (bd_int (Nat.lt_of_le_of_lt (ok.small m hm).1.1 (by decide))).mono (by decide) (by decide)
      · exact pr m hm
    refine this.mono ?_ (by decide)
    rw [List.length_map]
    have : h.ms.length * 702 ≤ 4 * 702 := Nat.mul_le_mul_right _ ok.n4
    omega
  have bb : Bd (.tuple (h.bs.map Belt.py)) 3000 5 := by
    have := bd_tuple (ds := h.bs.map Belt.py) (n := 300) (k := 4) fun d hd => by
      obtain ⟨m, hm, rfl⟩ := List.mem_map.mp hd
      have rm := ok.room m hm
      have en := ok.ends m hm
      refine (bd_tuple (n := 60) (k := 3) fun d hd => ?_).mono (show 4 * (60 + 2) + 3 ≤ 300 by decide) (by decide)
      simp only [List.mem_cons, List.not_mem_nil, or_false] at hd
      rcases hd with rfl | rfl | rfl | rfl
      · exact (bd_str (ok.str _ en.1).2).mono (by decide) (by decide)
      · exact (bd_str (ok.str _ en.2).2).mono (by decide) (by decide)
      · exact (bd_int (Nat.lt_of_le_of_lt (show ((m.room : Int)).natAbs ≤ 1000 by omega) (by decide))).mono (by decide) (by decide)
      · exact (bd_int (Nat.lt_of_le_of_lt (show ((m.first : Int)).natAbs ≤ 1000 by omega) (by decide))).mono (by decide) (by decide)
    refine this.mono ?_ (by decide)
    rw [List.length_map]
    have : h.bs.length * 302 ≤ 5 * 302 := Nat.mul_le_mul_right _ ok.b5
    omega
  refine (bd_tuple (n := 3000) (k := 5) fun d hd => ?_).mono (show 3 * (3000 + 2) + 3 ≤ 100000 by decide) (by decide)
  simp only [List.mem_cons, List.not_mem_nil, or_false] at hd
  rcases hd with rfl | rfl | rfl
  · exact bm
  · exact bb
  · exact (bd_str ok.fl.2).mono (by decide) (by decide)
def stE (st : StT) : List (List Key × PyData) := st.map fun e => (e.1, .int e.2)
def stD (st : StT) : PyData := .dict ((stE st).map fun e => (.tuple (e.1.map kD), e.2))
theorem st_rd1 {H : Hp} {a : Addr} {st : StT} (e : H a = some (.dT (stK st))) : Rd1 H (.ref a) (stD st) := by
  refine .dt e ?_
  unfold stK stE
  induction st with
  | nil => exact .nil
  | cons x l ih =>
    refine .cons ⟨rfl, .int _⟩ ?_
    clear e ih
    induction l with
    | nil => exact .nil
    | cons x l ih => exact .cons ⟨rfl, .int _⟩ ih
theorem bd_st {st : StT} {m : Int} (g : StGood st m) (hm : m ≤ 1000000) : Bd (stD st) 500000 3 := by
  have := bd_dict (kvs := (stE st).map fun e => (PyData.tuple (e.1.map kD), e.2)) (n := 190) (m := 19) (k := 2) fun d hd => by
    obtain ⟨e, he, rfl⟩ := List.mem_map.mp hd
    obtain ⟨e0, h0, rfl⟩ := List.mem_map.mp he
    have ge := g.ok e0 h0
    refine ⟨?_, (bd_int (Nat.lt_of_le_of_lt (show e0.2.natAbs ≤ 1000000 by omega) (by decide))).mono (by decide) (by decide)⟩
    have := bd_tuple (ds := e0.1.map kD) (n := 60) (k := 1) fun d hd => by
      obtain ⟨x, hx, rfl⟩ := List.mem_map.mp hd
      have := ge.1.2 x hx
      cases x with
      | inl i => exact (bd_int (Nat.lt_of_le_of_lt (show i.natAbs ≤ 1000000 from this) (by decide))).mono (by decide) (by decide)
      | inr n => exact bd_str this
    refine this.mono ?_ (by decide)
    rw [List.length_map]
    have : e0.1.length * 62 ≤ 3 * 62 := Nat.mul_le_mul_right _ ge.1.1
    omega
  refine this.mono ?_ (by decide)
  rw [List.length_map, stE, List.length_map]
  have : st.length * (190 + 19 + 4) ≤ 2000 * (190 + 19 + 4) := Nat.mul_le_mul_right _ g.len
  omega
end K41
/-! the law -/
namespace K41
open PySem PySem.Spec PyProof.Rows L2
open C8 (Cal pe_c)
theorem lkT_bd {st : StT} {m : Int} (g : ∀ e ∈ st, 0 ≤ e.2 ∧ e.2 ≤ m) (hm : 0 ≤ m) (k : List Key) : 0 ≤ (lkT st k).getD 0 ∧ (lkT st k).getD 0 ≤ m := by
  unfold lkT
  cases hf : st.find? (fun x => decide (x.1 = k)) with
  | none => exact ⟨Int.le_refl _, hm⟩
  | some e => exact g e (List.mem_of_find?_eq_some hf)
theorem sum_bd {f : Nat → Int} {m : Int} (hf : ∀ i, 0 ≤ f i ∧ f i ≤ m) : ∀ l : List Nat, 0 ≤ (l.map f).sum ∧ (l.map f).sum ≤ (l.length : Int) * m
  | [] => by simp
  | x :: l => by
    have h1 := sum_bd hf l
    have h2 := hf x
    rw [List.map_cons, List.sum_cons, List.length_cons]
    have e : ((l.length + 1 : Nat) : Int) * m = (l.length : Int) * m + m := by rw [Int.natCast_succ, Int.add_mul, Int.one_mul]
    omega
theorem W_bd {h : Hall} (ok : h.Ok) {st : StT} (g : StGood st 1020) (n : Str) (p : Nat) : 0 ≤ h.W st n p ∧ h.W st n p ≤ 5000 := by
  have hs := sum_bd (f := fun i => stV st n p i) (m := 1020) (fun i => lkT_bd (fun e he => (g.ok e he).2) (by decide) _) (List.range (h.mach n).ps.length)
  have hm : (0 ≤ (h.mach n).tm ∧ (h.mach n).tm ≤ 1000) ∧ (h.mach n).ps.length ≤ 3 := by
    unfold Hall.mach
    cases hf : h.ms.find? (fun m => decide (m.nm = n)) with
    | none => exact ⟨⟨Int.le_refl _, (by show (0:Int) ≤ 1000; decide)⟩, Nat.zero_le _⟩
    | some m =>
      have := ok.small m (List.mem_of_find?_eq_some hf)
      show (0 ≤ m.tm ∧ m.tm ≤ 1000) ∧ m.ps.length ≤ 3
      omega
  rw [List.length_range] at hs
  have h3 : ((h.mach n).ps.length : Int) * 1020 ≤ 3 * 1020 := Int.mul_le_mul_of_nonneg_right (by omega) (by decide)
  unfold Hall.W
  omega
theorem fl_bd {fl : StT} (g : StGood fl 99) (n : Str) (p : Nat) : 0 ≤ flV fl n p ∧ flV fl n p ≤ 99 := lkT_bd (fun e he => (g.ok e he).2) (by decide) _
/-- what a run is like -/
structure Good (h : Hall) (st : StT) (many : Nat) (B : Str → Nat → Int) : Prop where
  ok : RunOk h.names many B
  kept : KeptF h st B many
  nn : ∀ n p, 0 ≤ B n p
theorem good_of {h : Hall} (ok : h.Ok) {r : Str → Nat} (rk : Ranked h r) {st fl : StT} (g : StGood st 1020) (gf : StGood fl 99) {many : Nat} (hm : many ≤ 9) : Good h st many (Bv h st (flV fl) r) := by
  have ib := Bv_is (h := h) (st := st) rk (flV fl)
  have nn := ib.nn fun n p => (fl_bd gf n p).1
  refine ⟨⟨ok.str, ok.nd, by rw [Hall.names, List.length_map]; exact ok.n4, by omega, fun n hn p hp => ?_⟩, ib.kept many, nn⟩
  have hb := IsB.bound rk ib (M := 99) (w := 5000) (fun n p => (fl_bd gf n p).2) (by decide) (fun n p => (W_bd ok g n p).2) 44 n p (by unfold mu; have := rk.le n; omega)
  have := nn n p
  have e : (10 : Nat) ^ 18 = 1000000000000000000 := by decide
  rw [e]
  omega
theorem Good.max {h : Hall} {st : StT} {many : Nat} {B C : Str → Nat → Int} (a : Good h st many B) (b : Good h st many C) : Good h st many (fun n p => if C n p > B n p then C n p else B n p) := by
  refine ⟨⟨a.ok.str, a.ok.nd, a.ok.len, a.ok.mn, fun n hn p hp => ?_⟩, a.kept.max b.kept, fun n p => ?_⟩
  · split
    · exact b.ok.val n hn p hp
    · exact a.ok.val n hn p hp
  · split
    · exact b.nn n p
    · exact a.nn n p
theorem Good.min {h : Hall} {st : StT} {many : Nat} {B C : Str → Nat → Int} (a : Good h st many B) (b : Good h st many C) : Good h st many (fun n p => if C n p < B n p then C n p else B n p) := by
  refine ⟨⟨a.ok.str, a.ok.nd, a.ok.len, a.ok.mn, fun n hn p hp => ?_⟩, a.kept.min b.kept, fun n p => ?_⟩
  · split
    · exact b.ok.val n hn p hp
    · exact a.ok.val n hn p hp
  · split
    · exact b.nn n p
    · exact a.nn n p
theorem RunAt.x {H H' : Hp} {d : Addr} {ns : List Str} {many : Nat} {R : Str → Nat → Int} (a : RunAt H d ns many R) (s : ∀ o, H d = some o → H' d = some o) (k : TK H H') : RunAt H' d ns many R := by
  obtain ⟨kvs, e, p⟩ := a
  exact ⟨kvs, s _ e, Paired.mapP p fun n q hq => ⟨hq.1, hq.2.m k⟩⟩
theorem RunAt.dk {H : Hp} {d : Addr} {ns : List Str} {many : Nat} {R : Str → Nat → Int} (a : RunAt H d ns many R) : ∃ kvs, H d = some (.dK kvs) := let ⟨kvs, e, _⟩ := a; ⟨kvs, e⟩
theorem bd_show {h : Hall} (ok : h.Ok) {st fl : StT} (g : StGood st 1020) (gf : StGood fl 99) : Bd (.list [h.py, stD st, stD fl]) 2000000 7 := by
  refine (bd_list (n := 500000) (k := 6) fun d hd => ?_).mono (show 3 * (500000 + 2) + 2 ≤ 2000000 by decide) (by decide)
  simp only [List.mem_cons, List.not_mem_nil, or_false] at hd
  rcases hd with rfl | rfl | rfl
  · exact (bd_hall ok).mono (by decide) (by decide)
  · exact (bd_st g (by decide)).mono (by decide) (by decide)
  · exact (bd_st gf (by decide)).mono (by decide) (by decide)
theorem sx_same_but {S : Addr → Prop} {H H' : Hp} (s : Sx S H H') {a : Addr} {o : HO} (h : ¬ S a) (e : H a = some o) : H' a = some o := s a o h e
/-- a row told as a pair: a name, its ticks -/
def RowV (H : Hp) (many : Nat) (R : Str → Nat → Int) (n : Str) (v : V) : Prop := ∃ p t, v = .ref p ∧ H p = some (.tup [.str n, t]) ∧ Tv H t (rowD R many n)
theorem RowV.m {H H' : Hp} {many : Nat} {R : Str → Nat → Int} {n : Str} {v : V} (h : RowV H many R n v) (k : TK H H') : RowV H' many R n v := by
  obtain ⟨p, t, e, h1, h2⟩ := h
  exact ⟨p, t, e, k _ _ h1, h2.m k⟩
theorem rows_split {H : Hp} {many : Nat} {R : Str → Nat → Int} : ∀ {ns : List Str} {xs : List V}, Paired (RowV H many R) ns xs →
    ∃ (ps : List Addr) (kvs : List (Key × V)), xs = ps.map V.ref ∧ Paired (fun p (q : Key × V) => H p = some (.tup [kV q.1, q.2])) ps kvs ∧ Paired (fun n (q : Key × V) => q.1 = Sum.inr n ∧ Tv H q.2 (rowD R many n)) ns kvs
  | _, _, .nil => ⟨[], [], rfl, .nil, .nil⟩
  | _, _, .cons (a := n) h t => by
    obtain ⟨ps, kvs, e, h1, h2⟩ := rows_split t
    obtain ⟨p, x, rfl, h3, h4⟩ := h
    exact ⟨p :: ps, (Sum.inr n, x) :: kvs, by rw [e]; rfl, .cons h3 h1, .cons ⟨rfl, h4⟩ h2⟩
theorem rows_join {H : Hp} {many : Nat} {R : Str → Nat → Int} {ns : List Str} {ps : List Addr} {kvs : List (Key × V)} (h1 : Paired (fun p (q : Key × V) => H p = some (.tup [kV q.1, q.2])) ps kvs) (h2 : Paired (fun n (q : Key × V) => q.1 = Sum.inr n ∧ Tv H q.2 (rowD R many n)) ns kvs) :
    Paired (RowV H many R) ns (ps.map V.ref) := by
  induction h2 generalizing ps with
  | nil => cases h1; exact .nil
  | @cons n q ns kvs h2 _ ih =>
    cases h1 with
    | @cons p _ ps _ h1 t1 =>
      refine .cons ⟨p, q.2, rfl, ?_, h2.2⟩ (ih t1)
      rw [h1, h2.1]
      rfl
/-- dict() of such pairs is a run -/
theorem dict_rows {K : PySem.W.Frag} {H : Hp} {l : Addr} {many : Nat} {R : Str → Nat → Int} {ns : List Str} {xs : List V} (e : H l = some (.lst xs)) (pr : Paired (RowV H many R) ns xs) (nd : ns.Nodup) :
    ∃ (ps : List Addr) (kvs : List (Key × V)), SqL K H l (ps.map V.ref) ∧ Paired (fun p (kv : Key × V) => SqT K H p [kV kv.1, kv.2]) ps kvs ∧ ∀ p, H p = none → Same H (upd H p (.dK (mergeK [] kvs))) ∧ RunAt (upd H p (.dK (mergeK [] kvs))) p ns many R := by
  obtain ⟨ps, kvs, e1, h1, h2⟩ := rows_split pr
  subst e1
  refine ⟨ps, kvs, SqL.of e, Paired.mapP h1 fun _ _ h => SqT.of h, fun p hp => ?_⟩
  have ek : mergeK [] kvs = kvs := by
    have := mergeK_fresh kvs [] (by rw [List.nil_append, RunAt.keys h2]; exact nodup_inr nd)
    rw [this, List.nil_append]
  have k : Same H (upd H p (.dK (mergeK [] kvs))) := Same.new hp
  exact ⟨k, kvs, by rw [upd_same, ek], Paired.mapP h2 fun _ _ h => ⟨h.1, h.2.m k.tk⟩⟩
section
variable {P : Program} {w : World} {K : PySem.W.Frag} {mg : Str → Option Value} {base : Heap}
def sp_law (K : PySem.W.Frag) : Sp := fun vs H Q _ => ∃ (a : Addr) (ns : List Int), vs = [.ref a] ∧ SqL K H a (ns.map .int) ∧ ns.length ≤ 63 ∧ ∀ H', Q (.bl true) H'
theorem c_law (T : Txt K mg) {f : Addr} {fd : FuncData} (F : FunD K "law" "law" (defArgs s_law) (defBody s_law) (defScope s_law) [] [] f fd) : FnG P w K mg base 9 f fd p_law (sp_law K) := by
  refine fnG_of F sc_law (fun vs H Q E h => by first | (obtain ⟨_, rfl, _⟩ := h; rfl) | (obtain ⟨_, _, rfl, _⟩ := h; rfl) | (obtain ⟨_, _, _, rfl, _⟩ := h; rfl) | (obtain ⟨_, _, _, _, rfl, _⟩ := h; rfl) | (obtain ⟨_, _, _, _, _, rfl, _⟩ := h; rfl) | (obtain ⟨_, _, _, _, _, _, rfl, _⟩ := h; rfl) | (obtain ⟨_, _, _, _, _, _, _, rfl, _⟩ := h; rfl) | (obtain ⟨_, _, _, _, _, _, _, _, rfl, _⟩ := h; rfl) | (obtain ⟨_, _, _, _, _, _, _, _, _, rfl, _⟩ := h; rfl) | (obtain ⟨_, _, _, _, _, _, _, _, _, _, rfl, _⟩ := h; rfl) | (obtain ⟨_, _, _, _, _, _, _, _, _, _, _, rfl, _⟩ := h; rfl) | (obtain ⟨_, _, _, _, _, _, _, _, _, _, _, _, rfl, _⟩ := h; rfl)) (fun cdv A outer s H vs Q E gd hr hsp => ?_)
  have hu := hu_of hr
  have hu64 := hr.units
  have hu2 := hu2_of hr
  have hu80 := hu80_of hr
  have nd := sc_law.nd
  refine ⟨_, (pss_cons (ps_set (i := 1) nd rfl (by first | exact Or.inl rfl | exact Or.inr rfl) (pe_c (c__law_bag T) hr (by decide) rfl (pa_cons (pv 0) pa_nil)))
    (pss_cons (ps_for PassesOwn.never rfl (pi_range1 (by rfl) T.b_range (pa_cons pe_int pa_nil)) (pg_name (i := 2) nd rfl (by first | exact Or.inl rfl | exact Or.inr rfl)) (pss_cons (ps_par (i := 3) (j := 4) (by rfl) nd rfl rfl (by decide) rfl rfl (pa_cons (pe_c (c__law_small T) hr (by decide) rfl (pa_cons (pv 1) pa_nil)) (pa_cons (pe_c (c__law_some T) hr (by decide) rfl (pa_cons (pv 1) (pa_cons (pe_lst (pa_cons pe_int (pa_cons pe_int (pa_cons pe_int (pa_cons pe_int (pa_cons pe_int pa_nil)))))) pa_nil))) pa_nil)) (by rfl))
    (pss_cons (ps_par (i := 5) (j := 6) (by rfl) nd rfl rfl (by decide) rfl rfl (pa_cons (pe_c (c__law_any_stops T) hr (by decide) rfl (pa_cons (pv 1) (pa_cons (pv 3) (pa_cons (pe_op op_add (pv 4) pe_int) pa_nil)))) (pa_cons (pe_lst pa_nil) pa_nil)) (by rfl))
    (pss_cons (ps_for PassesOwn.never rfl (pit (K := K) rfl (pe_tup (pa_cons pe_dnewT (pa_cons (pe_c (c__law_floors T) hr (by decide) rfl (pa_cons (pv 1) (pa_cons (pv 3) (pa_cons (pv 4) pa_nil)))) (pa_cons (pe_c (c__law_floors T) hr (by decide) rfl (pa_cons (pv 1) (pa_cons (pv 3) (pa_cons (pv 4) pa_nil)))) pa_nil))))) (pg_name (i := 7) nd rfl (by first | exact Or.inl rfl | exact Or.inr rfl)) (pss_cons (ps_set (i := 8) nd rfl (by first | exact Or.inl rfl | exact Or.inr rfl) (pe_callB (cr_repr_ hu64 gd) (by rfl) T.b_repr (by decide +kernel) (pa_cons (pe_lst (pa_cons (pv 3) (pa_cons (pv 5) (pa_cons (pv 7) pa_nil)))) pa_nil)))
    (pss_cons (ps_set (i := 9) nd rfl (by first | exact Or.inl rfl | exact Or.inr rfl) (pe_c (c_held_back T) hr (by decide) rfl (pa_cons (pv 3) (pa_cons (pv 5) (pa_cons (pv 7) (pa_cons (pv 4) pa_nil))))))
    (pss_cons (ps_if (PW.pt (pw_or (pt_not (pt_val (pe_cG (c__law_alike T) gd hr (by decide) rfl (pa_cons (pv 9) (pa_cons (pe_c (c__law_held_run T) hr (by decide) rfl (pa_cons (pv 3) (pa_cons (pv 5) (pa_cons (pv 7) (pa_cons (pe_lst pa_nil) (pa_cons (pv 4) pa_nil)))))) pa_nil))))) (pw_or1 (pt_cmpR op_ne (pe_callB (cr_repr_ hu64 gd) (by rfl) T.b_repr (by decide +kernel) (pa_cons (pe_lst (pa_cons (pv 3) (pa_cons (pv 5) (pa_cons (pv 7) pa_nil)))) pa_nil)) (pv 8) (nomark _))))) (pss_one (ps_ret pe_bl)) pss_nil)
    (pss_cons (ps_if (PW.pt (pw_or (pt_cmpR op_notBl (pe_c (c_is_run T) hr (by decide) rfl (pa_cons (pv 3) (pa_cons (pv 5) (pa_cons (pv 9) pa_nil)))) pe_bl (nomark _)) (pw_or1 (pt_not (pt_val (pe_cG (c__law_alike T) gd hr (by decide) rfl (pa_cons (pe_c (c_held_back T) hr (by decide) rfl (pa_cons (pv 3) (pa_cons (pv 5) (pa_cons (pe_c (c_floors_of T) hr (by decide) rfl (pa_cons (pv 9) pa_nil)) (pa_cons (pv 4) pa_nil))))) (pa_cons (pv 9) pa_nil)))))))) (pss_one (ps_ret pe_bl)) pss_nil)
    (pss_one (ps_expr (pe_bm PySem.F.plainAttrs_list PySem.F.slot_list_append PySem.F.type_list_append mt_append (pv 6) (pa_cons (pv 9) pa_nil)))))))))
    (pss_cons (ps_asg (pv 6) (pgu (K := K) (n := 3) rfl (pgs_cons (pg_name (i := 10) nd rfl (by first | exact Or.inl rfl | exact Or.inr rfl)) (pgs_cons (pg_name (i := 11) nd rfl (by first | exact Or.inl rfl | exact Or.inr rfl)) (pgs_cons (pg_name (i := 12) nd rfl (by first | exact Or.inl rfl | exact Or.inr rfl)) pgs_nil)))))
    (pss_cons (ps_if (PW.pt (pw_or (pt_cmpR op_notBl (pe_c (c_is_earlier T) hr (by decide) rfl (pa_cons (pv 10) (pa_cons (pv 11) pa_nil))) pe_bl (nomark _)) (pw_or1 (pt_cmpR op_notBl (pe_c (c_is_earlier T) hr (by decide) rfl (pa_cons (pv 10) (pa_cons (pv 12) pa_nil))) pe_bl (nomark _))))) (pss_one (ps_ret pe_bl)) pss_nil)
    (pss_cons (ps_set (i := 13) nd rfl (by first | exact Or.inl rfl | exact Or.inr rfl) (pe_disp (pps_cons pe_str (pe_lst pa_nil) (pps_cons pe_str (pe_lst pa_nil) pps_nil)) (by rfl) (by rfl) (fun z => by cases z) (by decide)))
    (pss_cons (ps_for PassesOwn.never rfl (pil (K := K) rfl (pe_callB (call_sortedD rfl) (by rfl) T.b_sorted (by decide +kernel) (pa_cons (pv 11) pa_nil))) (pg_name (i := 14) nd rfl (by first | exact Or.inl rfl | exact Or.inr rfl)) (pss_cons (ps_expr (pe_bm PySem.F.plainAttrs_list PySem.F.slot_list_append PySem.F.type_list_append mt_append (pe_dget hu (pv 13) pe_str (fun _ _ => rfl)) (pa_cons (pe_tup (pa_cons (pv 14) (pa_cons (pe_callTy (cr_tuple (K := K) rfl) (by rfl) T.b_tuple (by decide +kernel) (pa_cons (pe_lc (own := [("_law_a", 15), ("_law_b", 16)]) rfl nd (pi_zT (K := K) rfl (by rfl) T.b_zip (pa_cons (pe_dget hu (pv 11) (pv 14) (fun _ _ => rfl)) (pa_cons (pe_dget hu (pv 12) (pv 14) (fun _ _ => rfl)) pa_nil))) (blkOk_by (own := [("_law_a", 15), ("_law_b", 16)]) (N := n_law) (sc := defScope s_law) (by decide +kernel)) (fun _ _ _ _ _ => (pgt (K := K) (n := 2) rfl (pgs_cons (pg_name (i := 15) nd rfl (by first | exact Or.inl rfl | exact Or.inr rfl)) (pgs_cons (pg_name (i := 16) nd rfl (by first | exact Or.inl rfl | exact Or.inr rfl)) pgs_nil)))) (fun _ _ _ _ _ => pts_nil) (fun _ _ _ _ _ => (pe_callB (call_max2 rfl) (by rfl) T.b_max (by decide +kernel) (pa_cons (pv 15) (pa_cons (pv 16) pa_nil))))) pa_nil)) pa_nil))) pa_nil)))
    (pss_one (ps_expr (pe_bm PySem.F.plainAttrs_list PySem.F.slot_list_append PySem.F.type_list_append mt_append (pe_dget hu (pv 13) pe_str (fun _ _ => rfl)) (pa_cons (pe_tup (pa_cons (pv 14) (pa_cons (pe_callTy (cr_tuple (K := K) rfl) (by rfl) T.b_tuple (by decide +kernel) (pa_cons (pe_lc (own := [("_law_a", 15), ("_law_b", 16)]) rfl nd (pi_zT (K := K) rfl (by rfl) T.b_zip (pa_cons (pe_dget hu (pv 11) (pv 14) (fun _ _ => rfl)) (pa_cons (pe_dget hu (pv 12) (pv 14) (fun _ _ => rfl)) pa_nil))) (blkOk_by (own := [("_law_a", 15), ("_law_b", 16)]) (N := n_law) (sc := defScope s_law) (by decide +kernel)) (fun _ _ _ _ _ => (pgt (K := K) (n := 2) rfl (pgs_cons (pg_name (i := 15) nd rfl (by first | exact Or.inl rfl | exact Or.inr rfl)) (pgs_cons (pg_name (i := 16) nd rfl (by first | exact Or.inl rfl | exact Or.inr rfl)) pgs_nil)))) (fun _ _ _ _ _ => pts_nil) (fun _ _ _ _ _ => (pe_callB (call_min2 rfl) (by rfl) T.b_min (by decide +kernel) (pa_cons (pv 15) (pa_cons (pv 16) pa_nil))))) pa_nil)) pa_nil))) pa_nil))))))
    (pss_cons (ps_set (i := 17) nd rfl (by first | exact Or.inl rfl | exact Or.inr rfl) (pe_lst (pa_cons (pe_c (c_greatest_run T) hr (by decide) rfl (pa_cons (pv 11) (pa_cons (pe_callTy (call_dictP rfl) (by rfl) T.b_dict (by decide +kernel) (pa_cons (pe_c (c__law_mixed T) hr (by decide) rfl (pa_cons (pv 1) (pa_cons (LiI.pe_listItems rfl (pv 12) (by rfl) T.b_list (by decide +kernel)) pa_nil))) pa_nil)) pa_nil))) (pa_cons (pe_c (c_least_run T) hr (by decide) rfl (pa_cons (pv 12) (pa_cons (pv 11) pa_nil))) pa_nil))))
    (pss_cons (ps_if (pt_not (pt_val (pe_cG (c__law_alike T) gd hr (by decide) rfl (pa_cons (pv 17) (pa_cons (pe_lst (pa_cons (pe_callTy (call_dictP rfl) (by rfl) T.b_dict (by decide +kernel) (pa_cons (pe_dget hu (pv 13) pe_str (fun _ _ => rfl)) pa_nil)) (pa_cons (pe_callTy (call_dictP rfl) (by rfl) T.b_dict (by decide +kernel) (pa_cons (pe_dget hu (pv 13) pe_str (fun _ _ => rfl)) pa_nil)) pa_nil))) pa_nil))))) (pss_one (ps_ret pe_bl)) pss_nil)
    (pss_cons (ps_if (PW.pt (pw_or (pt_not (pt_val (pe_c (c__law_is_run T) hr (by decide) rfl (pa_cons (pv 3) (pa_cons (pv 5) (pa_cons (pe_ix (ixl (K := K) rfl) (pv 17) pe_int (fun _ _ => rfl)) pa_nil)))))) (pw_or1 (pt_not (pt_val (pe_c (c__law_is_run T) hr (by decide) rfl (pa_cons (pv 3) (pa_cons (pv 5) (pa_cons (pe_ix (ixl (K := K) rfl) (pv 17) pe_int (fun _ _ => rfl)) pa_nil))))))))) (pss_one (ps_ret pe_bl)) pss_nil)
    (pss_cons (ps_expr (pe_dclear (pe_ix (ixl (K := K) rfl) (pv 17) pe_int (fun _ _ => rfl))))
    (pss_one (ps_if (pt_not (pt_val (pe_cG (c__law_alike T) gd hr (by decide) rfl (pa_cons (pe_c (c_greatest_run T) hr (by decide) rfl (pa_cons (pv 11) (pa_cons (pv 12) pa_nil))) (pa_cons (pe_callTy (call_dictP rfl) (by rfl) T.b_dict (by decide +kernel) (pa_cons (pe_dget hu (pv 13) pe_str (fun _ _ => rfl)) pa_nil)) pa_nil))))) (pss_one (ps_ret pe_bl)) pss_nil))))))))))))))
    (pss_one (ps_ret pe_bl)))), ?_⟩
  obtain ⟨a, ns, rfl, hs, hl, q⟩ := hsp
  refine ⟨_, rfl, a, ns, rfl, hs, hl, fun b c H1 s1 hb hc bg1 => ?_⟩
  refine ⟨2, rfl, by decide, by decide, ?_⟩
  refine for_it (walk_range (lo := 0) (n := 2)) (fun _ σ H' => (∃ o2 o3 o4 o5 o6 o7 o8 o9 o10 o11 o12 o13 o14 o15 o16 o17, σ = [some (.ref a), some (.ref b), o2, o3, o4, o5, o6, o7, o8, o9, o10, o11, o12, o13, o14, o15, o16, o17]) ∧ BagAt H' b c)
    ⟨⟨_, _, _, _, _, _, _, _, _, _, _, _, _, _, _, _, rfl⟩, bg1⟩ (fun _ _ _ _ _ => trivial) (fun turn x σ H2 H3 ht p hy => ?_) (fun σ H2 p => ?_)
  · obtain ⟨⟨o2, o3, o4, o5, o6, o7, o8, o9, o10, o11, o12, o13, o14, o15, o16, o17, rfl⟩, bg2⟩ := p
    obtain ⟨rfl, rfl⟩ := hy
    -- a hall, a number
    refine ⟨_, rfl, b, c, rfl, bg2, fun v H4 h s4 bg4 tv ok => ⟨_, rfl, by show 5 ≤ sizeLine; decide, fun p hp => ?_⟩⟩
    have kp : Same H4 (upd H4 p (.lst [.int 6, .int 3, .int 9, .int 0, .int 1])) := Same.new hp
    refine ⟨b, c, p, _, rfl, bg4.m kp, upd_same, fun z => by subst z; exact bg4.there.1 hp, by simp, by simp, fun vm H5 s5 bg5 hvm => ⟨_, _, rfl, ?_⟩⟩
    obtain ⟨many, rfl, hm⟩ : ∃ k : Nat, vm = .int (k : Int) ∧ k ≤ 9 := by
      simp only [List.mem_cons, List.not_mem_nil, or_false] at hvm
      rcases hvm with rfl | rfl | rfl | rfl | rfl
      · exact ⟨6, rfl, by omega⟩
      · exact ⟨3, rfl, by omega⟩
      · exact ⟨9, rfl, by omega⟩
      · exact ⟨0, rfl, by omega⟩
      · exact ⟨1, rfl, by omega⟩
    have tv5 := tv.m ((bg4.tk (same_sx kp)).trans ((bg4.m kp).tk s5))
    obtain ⟨r, rk⟩ := ok.rk
    -- stops
    refine ⟨_, rfl, _, rfl, _, rfl, _, _, rfl, rfl, b, c, v, many + 1, h, rfl, bg5, tv5, ok, by omega, fun d H6 st s6 bg6 hdb ed gd => ⟨by show 0 ≤ sizeLine; decide, fun U hU => ⟨_, _, rfl, ?_⟩⟩⟩
    have kU : Same H6 (upd H6 U (.lst [])) := Same.new hU
    have Ub : U ≠ b := fun z => by subst z; exact bg6.there.1 hU
    have Uc : U ≠ c := fun z => by subst z; exact bg6.there.2 hU
    have tv7 := tv5.m ((bg5.tk s6).trans kU.tk)
    have bg7 := bg6.m kU
    have ed7 := kU _ _ ed
    have eU7 := upd_same (H := H6) (a := U) (o := .lst [])
    generalize upd H6 U (.lst []) = H7 at tv7 bg7 ed7 eU7 ⊢
    -- floors
    refine fun F0 hF0 => ?_
    have k0 : Same H7 (upd H7 F0 (.dT [])) := Same.new hF0
    have F0b : F0 ≠ b := fun z => by subst z; exact bg7.there.1 hF0
    refine ⟨_, rfl, _, rfl, _, rfl, b, c, v, many, h, rfl, bg7.m k0, tv7.m k0.tk, ok, by omega, fun F1 H8 f1 s8 bg8 hF1b e1 g1 => ⟨_, rfl, _, rfl, _, rfl, b, c, v, many, h, rfl, bg8, (tv7.m k0.tk).m ((bg7.m k0).tk s8), ok, by omega, fun F2 H9 f2 s9 bg9 hF2b e2 g2 => ⟨by show 3 ≤ sizeLine; decide, fun tp htp => ⟨tp, rfl, ⟨_, SqT.of upd_same⟩, ?_⟩⟩⟩⟩
    have kt : Same H9 (upd H9 tp (.tup [.ref F0, .ref F1, .ref F2])) := Same.new htp
    have sx79 := (same_sx (S := S1 b) k0).trans (s8.trans (s9.trans (same_sx kt)))
    have tk79 := bg7.tk sx79
    have tvA := tv7.m tk79
    have bgA := bg9.m kt
    have edA := sx79 d _ hdb ed7
    have eUA := sx79 U _ Ub eU7
    have e0A : (upd H9 tp (.tup [.ref F0, .ref F1, .ref F2])) F0 = some (.dT (stK [])) := kt _ _ ((s8.trans s9) F0 _ F0b upd_same)
    have e1A := kt _ _ (s9 F1 _ hF1b e1)
    have e2A := kt _ _ e2
    have etA : (upd H9 tp (.tup [.ref F0, .ref F1, .ref F2])) tp = some (.tup [.ref F0, .ref F1, .ref F2]) := upd_same
    generalize upd H9 tp (.tup [.ref F0, .ref F1, .ref F2]) = HA at tvA bgA edA eUA e0A e1A e2A etA ⊢
    have g0 : StGood [] 99 := ⟨fun e he => (by cases he), Nat.zero_le _⟩
    have flA : ∀ (i : Nat) (x : V), ([.ref F0, .ref F1, .ref F2] : List V)[i]? = some x → ∃ fa fl, x = .ref fa ∧ ([[], f1, f2] : List StT)[i]? = some fl ∧ HA fa = some (.dT (stK fl)) ∧ StGood fl 99 := fun i x hx => by
      match i, hx with
      | 0, hx => simp at hx; subst hx; exact ⟨F0, [], rfl, rfl, e0A, g0⟩
      | 1, hx => simp at hx; subst hx; exact ⟨F1, f1, rfl, rfl, e1A, g1⟩
      | 2, hx => simp at hx; subst hx; exact ⟨F2, f2, rfl, rfl, e2A, g2⟩
      | n + 3, hx => simp at hx
    have nU : ∀ {x o}, HA x = some o → (∀ l, o ≠ .lst l) → ¬ S1 U x := fun {x o} e hne z => by
      cases (show x = U from z)
      rw [eUA] at e
      exact hne _ (Option.some.inj e).symm
    have tkU : ∀ {H'}, Sx (S1 U) HA H' → TK HA H' := fun s => s.tk fun a xs z e => by
      cases (show a = U from z)
      rw [eUA] at e
      cases e
    refine for_it (walk_tupL (K := K) (a := tp) (xs := [.ref F0, .ref F1, .ref F2]) (n := 3) rfl) (fun i σ H' => (∃ o7 o8 o9, σ = [some (.ref a), some (.ref b), some (.int (0 + (turn : Int))), some v, some (.int (many : Int)), some (.ref d), some (.ref U), o7, o8, o9, o10, o11, o12, o13, o14, o15, o16, o17]) ∧ Sx (S1 U) HA H' ∧ BagAt H' b c ∧
        ∃ ras : List Addr, H' U = some (.lst (ras.map V.ref)) ∧ Paired (fun fl ra => RunAt H' ra h.names many (Bv h st (flV fl) r)) (([[], f1, f2] : List StT).take i) ras ∧ ras.Nodup)
      ⟨⟨_, _, _, rfl⟩, Sx.refl _, bgA, [], eUA, .nil, .nil⟩ (fun i σ H' _ p => SqT.of (tkU p.2.1 _ _ etA)) (fun i x σ HB HC hi p hy => ?_) (fun σ HB p => ?_)
    · obtain ⟨⟨o7, o8, o9, rfl⟩, sB, bgB, ras, eU, pr, ndr⟩ := p
      obtain ⟨rfl, hx⟩ := hy
      obtain ⟨fa, fl, rfl, efl, efa, gfl⟩ := flA i x hx
      have tvB := tvA.m (tkU sB)
      have edB := sB d _ (nU edA (by intro l z; cases z)) edA
      have efB := sB fa _ (nU efa (by intro l z; cases z)) efa
      have ib := Bv_is (h := h) (st := st) rk (flV fl)
      have gB := good_of ok rk gd gfl hm
      have sh := bd_show ok gd gfl
      have etk : ([[], f1, f2] : List StT).take (i + 1) = ([[], f1, f2] : List StT).take i ++ [fl] := by rw [List.take_succ, efl]; rfl
      have shown : ∀ {H' : Hp} {Q : VK} {p : Addr}, Tv H' v h.py → H' d = some (.dT (stK st)) → H' fa = some (.dT (stK fl)) → H' p = none → Q (.str (PyData.list [h.py, stD st, stD fl]).shown) (upd H' p (.lst [v, .ref d, .ref fa])) → rReprA [.ref p] (upd H' p (.lst [v, .ref d, .ref fa])) Q := fun {H' Q p} t e1 e2 hp q => by
        have k : Same H' (upd H' p (.lst [v, .ref d, .ref fa])) := Same.new hp
        exact .inl ⟨p, _, [h.py, stD st, stD fl], 2000000, 7, rfl, upd_same, .cons (.tv (t.m k.tk)) (.cons (st_rd1 (k _ _ e1)) (.cons (st_rd1 (k _ _ e2)) .nil)), sh, by decide, by decide, q⟩
      refine ⟨_, rfl, _, rfl, _, rfl, by show 3 ≤ sizeLine; decide, fun p1 hp1 => shown tvB edB efB hp1 ?_⟩
      have k1 : Same HC (upd HC p1 (.lst [v, .ref d, .ref fa])) := Same.new hp1
      generalize upd HC p1 (.lst [v, .ref d, .ref fa]) = HD at k1 ⊢
      have sameK : True := trivial
      refine ⟨_, rfl, _, rfl, _, rfl, _, rfl, v, d, fa, many, h, r, st, fl, Bv h st (flV fl) r, rfl, tvB.m k1.tk, ok, rk, k1 _ _ edB, k1 _ _ efB, by omega, ib, fun ra HE sE hra raE => ?_⟩
      have kE := k1.trans sE
      have hraC : HC ra = none := k1.free hra
      refine ⟨_, rfl, _, rfl, _, rfl, _, rfl, by show 0 ≤ sizeLine; decide, fun cd hcd => ?_⟩
      have k2 : Same HE (upd HE cd (.lst [])) := Same.new hcd
      have ecd := upd_same (H := HE) (a := cd) (o := .lst [])
      generalize upd HE cd (.lst []) = HF at k2 ecd ⊢
      have kF := kE.trans k2
      refine ⟨_, rfl, v, d, fa, cd, many, h, r, st, fl, Bv h st (flV fl) r, rfl, tvB.m kF.tk, ok, rk, kF _ _ edB, kF _ _ efB, ecd, by omega, ib, fun ra2 HG sG hra2 ra2G => ?_⟩
      have kG := kF.trans sG
      have raG := raE.m (k2.trans sG)
      refine ⟨ra, ra2, rfl, .inl ⟨h.names, many, _, raG, ra2G, gB.ok⟩, ⟨_, rfl, iteF ⟨_, rfl, _, rfl, _, rfl, by show 3 ≤ sizeLine; decide, fun p2 hp2 => shown (tvB.m kG.tk) (kG _ _ edB) (kG _ _ efB) hp2 ⟨_, rfl, rfl, _, rfl, iteNS rfl ?_⟩⟩⟩⟩
      have k3 : Same HG (upd HG p2 (.lst [v, .ref d, .ref fa])) := Same.new hp2
      generalize upd HG p2 (.lst [v, .ref d, .ref fa]) = HI at k3 ⊢
      have kI := kG.trans k3
      refine ⟨_, rfl, _, rfl, _, rfl, v, d, ra, many, h, st, _, rfl, tvB.m kI.tk, ok, kI _ _ edB, raG.m k3, by omega, gB.kept, fun n _ p _ => gB.nn n p, fun HJ sJ => ⟨true, true, rfl, rfl, _, rfl, iteNS rfl ?_⟩⟩
      have kJ := kI.trans sJ
      refine ⟨_, rfl, _, rfl, _, rfl, ra, many, h.names, _, rfl, raG.m (k3.trans sJ), ok.nd, ok.srt, by have := gB.ok.len; omega, by omega, fun fp HK fl' sK hfp ef hfl => ?_⟩
      have kK := kJ.trans sK
      have ib' := Bv_is (h := h) (st := st) rk (flV fl')
      refine ⟨_, rfl, v, d, fp, many, h, r, st, fl', _, rfl, tvB.m kK.tk, ok, rk, kK _ _ edB, ef, by omega, ib', fun rb HL sL hrb rbL => ?_⟩
      have kL := kK.trans sL
      have rbL' : RunAt HL rb h.names many (Bv h st (flV fl) r) := rbL.congr fun n hn p hp => IsB.again rk ib ib' (fun x hx => (ok.stn hx).1) (fun n hn p hp => hfl n hn p hp) (mu r n p + 1) n p hn hp (Nat.lt_succ_self _)
      have raL := raG.m (k3.trans (sJ.trans (sK.trans sL)))
      refine ⟨_, rfl, rb, ra, rfl, .inl ⟨h.names, many, _, rbL', raL, gB.ok⟩, ⟨_, rfl, iteF ?_⟩⟩
      have eUL := kL _ _ eU
      have hi4 : ras.length ≤ 3 := by
        have := Paired.length pr
        rw [List.length_take] at this
        simp at this
        omega
      refine ⟨_, rfl, .inl ⟨rfl, _, SqL.of eUL⟩, _, rfl, U, _, _, rfl, rfl, eUL, by rw [List.length_map]; show ras.length < sizeLine; unfold sizeLine; omega, ?_⟩
      have nUL : ∀ {x : Addr} {o}, HL x = some o → (∀ l, o ≠ .lst l) → upd HL U (.lst (ras.map V.ref ++ [.ref ra])) x = some o := fun {x o} e hne => by
        have : x ≠ U := fun z => by
          subst z
          rw [eUL] at e
          exact hne _ (Option.some.inj e).symm
        rw [upd_ne this]; exact e
      have sU : Sx (S1 U) HA (upd HL U (.lst (ras.map V.ref ++ [.ref ra]))) := Sx.at (sB.trans (same_sx kL)) rfl
      have tkL : TK HL (upd HL U (.lst (ras.map V.ref ++ [.ref ra]))) := (show Sx (S1 U) HL (upd HL U (.lst (ras.map V.ref ++ [.ref ra]))) from Sx.at (Sx.refl _) rfl).tk fun a xs z e => by
        cases (show a = U from z)
        rw [eUL] at e
        cases e
      have up : ∀ {x : Addr} {R}, RunAt HL x h.names many R → RunAt (upd HL U (.lst (ras.map V.ref ++ [.ref ra]))) x h.names many R := fun {x R} t => t.x (fun o e => by
        obtain ⟨kvs, e2⟩ := t.dk
        have e3 := e.symm.trans e2
        cases Option.some.inj e3
        exact nUL e2 (fun l z => by cases z)) tkL
      refine ⟨⟨_, _, _, rfl⟩, sU, (bgB.m kL).upd Ub Uc, ras ++ [ra], ?_, ?_, ?_⟩
      · rw [List.map_append]; exact upd_same
      · rw [etk]
        exact Paired.snoc (Paired.mapP pr fun _ _ t => up (t.m kL)) (up raL)
      · rw [List.nodup_append]
        refine ⟨ndr, List.nodup_cons.mpr ⟨by simp, List.nodup_nil⟩, fun x hx y hy => ?_⟩
        rw [List.mem_singleton] at hy
        subst hy
        intro z
        subst z
        obtain ⟨_, t⟩ := Paired.right pr _ hx
        obtain ⟨kvs, e⟩ := t.dk
        rw [hraC] at e
        cases e
    · obtain ⟨⟨o7, o8, o9, rfl⟩, sB, bgB, ras, eU, pr, ndr⟩ := p
      have tvB := tvA.m (tkU sB)
      have edB := sB d _ (nU edA (by intro l z; cases z)) edA
      rw [show (([[], f1, f2] : List StT).take 3) = [[], f1, f2] from rfl] at pr
      obtain ⟨a0, a1, a2, rfl, r0, r1, r2⟩ : ∃ a0 a1 a2, ras = [a0, a1, a2] ∧ RunAt HB a0 h.names many (Bv h st (flV []) r) ∧ RunAt HB a1 h.names many (Bv h st (flV f1) r) ∧ RunAt HB a2 h.names many (Bv h st (flV f2) r) := by
        cases pr with
        | cons p0 pr => cases pr with
          | cons p1 pr => cases pr with
            | cons p2 pr => cases pr with
              | nil => exact ⟨_, _, _, rfl, p0, p1, p2⟩
      have ib0 := Bv_is (h := h) (st := st) rk (flV [])
      have ib1 := Bv_is (h := h) (st := st) rk (flV f1)
      have ib2 := Bv_is (h := h) (st := st) rk (flV f2)
      have gB0 := good_of ok rk gd g0 hm
      have gB1 := good_of ok rk gd g1 hm
      have gB2 := good_of ok rk gd g2 hm
      have n01 : a0 ≠ a1 := fun z => by subst z; simp at ndr
      have n02 : a0 ≠ a2 := fun z => by subst z; simp at ndr
      have n12 : a1 ≠ a2 := fun z => by subst z; simp at ndr
      generalize e0 : Bv h st (flV []) r = R0 at *
      generalize e1' : Bv h st (flV f1) r = R1 at *
      generalize e2' : Bv h st (flV f2) r = R2 at *
      refine ⟨_, rfl, U, _, rfl, SqL.of eU, rfl, ?_⟩
      have len4 := gB0.ok.len
      refine ⟨_, _, rfl, _, _, rfl, _, _, rfl, rfl, _, rfl, _, rfl, a0, a1, many, h.names, R0, R1, rfl, r0, r1, n01, ok.nd, by omega, by omega, fun n hn p hp => IsB.mono rk ib0 ib1 (fun n p => (fl_bd g1 n p).1) (mu r n p + 1) n p (Nat.lt_succ_self _), fun HX sX => ⟨true, true, rfl, rfl, _, rfl, iteNS rfl ?_⟩⟩
      refine ⟨_, rfl, _, rfl, a0, a2, many, h.names, R0, R2, rfl, r0.m sX, r2.m sX, n02, ok.nd, by omega, by omega, fun n hn p hp => IsB.mono rk ib0 ib2 (fun n p => (fl_bd g2 n p).1) (mu r n p + 1) n p (Nat.lt_succ_self _), fun HY sX2 => ⟨true, true, rfl, rfl, _, rfl, iteNS rfl ?_⟩⟩
      have sY := sX.trans sX2
      have r1Y := r1.m sY
      have r2Y := r2.m sY
      have bgY := bgB.m sY
      have tvY := tvB.m sY.tk
      have edY := sY _ _ edB
      clear r0 r1 r2 bgB tvB edB eU pr sB sX sX2 sY
      refine fun Dp hDp => ⟨by show 0 ≤ sizeLine; decide, fun lm hlm => ⟨by show 0 ≤ sizeLine; decide, fun ll hll => ?_⟩⟩
      have Dl : Dp ≠ lm := fun z => by subst z; rw [upd_same] at hlm; cases hlm
      have Dl2 : Dp ≠ ll := fun z => by subst z; rw [upd_ne Dl, upd_same] at hll; cases hll
      have ml : lm ≠ ll := fun z => by subst z; rw [upd_same] at hll; cases hll
      have hlmY : HY lm = none := by rw [upd_ne (Ne.symm Dl)] at hlm; exact hlm
      have hllY : HY ll = none := by rw [upd_ne (Ne.symm ml), upd_ne (Ne.symm Dl2)] at hll; exact hll
      refine ⟨by rw [upd_ne Dl2, upd_ne Dl, upd_same], [(.inr (Str.ofString "most"), .ref lm), (.inr (Str.ofString "least"), .ref ll)], rfl, by show 2 ≤ 15; decide, ?_⟩
      have sZ : Same HY (upd (upd (upd (upd HY Dp (.dK [])) lm (.lst [])) ll (.lst [])) Dp (.dK [(.inr (Str.ofString "most"), .ref lm), (.inr (Str.ofString "least"), .ref ll)])) := fun x o e => by
        have x1 : x ≠ Dp := fun z => by subst z; rw [hDp] at e; cases e
        have x2 : x ≠ lm := fun z => by subst z; rw [hlmY] at e; cases e
        have x3 : x ≠ ll := fun z => by subst z; rw [hllY] at e; cases e
        rw [upd_ne x1, upd_ne x3, upd_ne x2, upd_ne x1]; exact e
      have eDp := upd_same (H := upd (upd (upd HY Dp (.dK [])) lm (.lst [])) ll (.lst [])) (a := Dp) (o := .dK [(.inr (Str.ofString "most"), .ref lm), (.inr (Str.ofString "least"), .ref ll)])
      have elm : (upd (upd (upd (upd HY Dp (.dK [])) lm (.lst [])) ll (.lst [])) Dp (.dK [(.inr (Str.ofString "most"), .ref lm), (.inr (Str.ofString "least"), .ref ll)])) lm = some (.lst []) := by rw [upd_ne (Ne.symm Dl), upd_ne ml, upd_same]
      have ell : (upd (upd (upd (upd HY Dp (.dK [])) lm (.lst [])) ll (.lst [])) Dp (.dK [(.inr (Str.ofString "most"), .ref lm), (.inr (Str.ofString "least"), .ref ll)])) ll = some (.lst []) := by rw [upd_ne (Ne.symm Dl2), upd_same]
      show (fun H' : Hp => _) (upd (upd (upd (upd HY Dp (.dK [])) lm (.lst [])) ll (.lst [])) Dp (.dK [(.inr (Str.ofString "most"), .ref lm), (.inr (Str.ofString "least"), .ref ll)]))
      generalize upd (upd (upd (upd HY Dp (.dK [])) lm (.lst [])) ll (.lst [])) Dp (.dK [(.inr (Str.ofString "most"), .ref lm), (.inr (Str.ofString "least"), .ref ll)]) = HZ at sZ eDp elm ell ⊢
      have r1Z := r1Y.m sZ
      have r2Z := r2Y.m sZ
      have bgZ := bgY.m sZ
      have tvZ := tvY.m sZ.tk
      have edZ := sZ _ _ edY
      have lmb : lm ≠ b := fun z => by subst z; exact bgY.there.1 hlmY
      have llb : ll ≠ b := fun z => by subst z; exact bgY.there.1 hllY
      have lmc : lm ≠ c := fun z => by subst z; exact bgY.there.2 hlmY
      have llc : ll ≠ c := fun z => by subst z; exact bgY.there.2 hllY
      obtain ⟨ka, ea, pa'⟩ := id r1Z
      obtain ⟨kb, eb, pb'⟩ := id r2Z
      refine ⟨_, rfl, a1, ka, h.names, rfl, .inl ea, RunAt.keys pa', by omega, fun ys p perm so' hp => ?_⟩
      have en := sorted_uniq perm so' ok.srt
      subst en
      have s0 : Same HZ (upd HZ p (.lst (h.names.map V.str))) := Same.new hp
      have ep := upd_same (H := HZ) (a := p) (o := .lst (h.names.map V.str))
      have r1W := r1Z.m s0
      have r2W := r2Z.m s0
      have bgW := bgZ.m s0
      have tvW := tvZ.m s0.tk
      have edW := s0 _ _ edZ
      have eDpW := s0 _ _ eDp
      have elmW := s0 _ _ elm
      have ellW := s0 _ _ ell
      have plm : p ≠ lm := fun z => by subst z; rw [hp] at elm; cases elm
      have pll : p ≠ ll := fun z => by subst z; rw [hp] at ell; cases ell
      generalize upd HZ p (.lst (h.names.map V.str)) = HW at s0 ep r1W r2W bgW tvW edW eDpW elmW ellW ⊢
      clear ea eb pa' pb' ka kb eDp elm ell r1Z r2Z bgZ tvZ edZ sZ
      have nS : ∀ {x : Addr} {o}, HW x = some o → (∀ l, o ≠ .lst l) → ¬ (x = lm ∨ x = ll) := fun {x o} e hne z => by
        rcases z with z | z
        · subst z; rw [elmW] at e; exact hne _ (Option.some.inj e).symm
        · subst z; rw [ellW] at e; exact hne _ (Option.some.inj e).symm
      have tkS : ∀ {H'}, Sx (fun x => x = lm ∨ x = ll) HW H' → TK HW H' := fun s => s.tk fun a xs z e => by
        rcases z with z | z
        · subst z; rw [elmW] at e; cases e
        · subst z; rw [ellW] at e; cases e
      refine ⟨_, rfl, ⟨_, SqL.of ep⟩, ?_⟩
      refine for_it (walk_listL (K := K) (a := p) (xs := h.names.map V.str) (n := h.names.length) (by rw [List.length_map])) (fun i σ H' => (∃ o14, σ = [some (.ref a), some (.ref b), some (.int (0 + (turn : Int))), some v, some (.int (many : Int)), some (.ref d), some (.ref U), o7, o8, o9, some (.ref a0), some (.ref a1), some (.ref a2), some (.ref Dp), o14, o15, o16, o17]) ∧
        Sx (fun x => x = lm ∨ x = ll) HW H' ∧ BagAt H' b c ∧ (∃ xs, H' lm = some (.lst xs) ∧ Paired (RowV H' many (fun n p => if R2 n p > R1 n p then R2 n p else R1 n p)) (h.names.take i) xs) ∧ ∃ xs, H' ll = some (.lst xs) ∧ Paired (RowV H' many (fun n p => if R2 n p < R1 n p then R2 n p else R1 n p)) (h.names.take i) xs)
        ⟨⟨_, rfl⟩, Sx.refl _, bgW, ⟨[], elmW, .nil⟩, [], ellW, .nil⟩ (fun i σ H' _ q => SqL.of (q.2.1 _ _ (fun z => z.elim plm pll) ep)) (fun i x σ HA' HB' hi q hy => ?_) (fun σ HV q => ?_)
      · obtain ⟨⟨o14, rfl⟩, sW, bgB, ⟨xm, elmB, plmB⟩, xl, ellB, pllB⟩ := q
        obtain ⟨rfl, hx⟩ := hy
        obtain ⟨n, hn', rfl⟩ : ∃ n, h.names[i]? = some n ∧ x = .str n := by
          rw [List.getElem?_map] at hx
          cases hg : h.names[i]? with
          | none => rw [hg] at hx; cases hx
          | some n => rw [hg] at hx; cases hx; exact ⟨n, rfl, rfl⟩
        have hn := List.mem_of_getElem? hn'
        have etk : h.names.take (i + 1) = h.names.take i ++ [n] := by rw [List.take_succ, hn']; rfl
        obtain ⟨ka, ea, pa'⟩ := r1W
        obtain ⟨kb, eb, pb'⟩ := r2W
        obtain ⟨aa, fa, ga⟩ := rows_get pa' hn
        obtain ⟨ab, fb, gb⟩ := rows_get pb' hn
        have eaB := sW _ _ (nS ea (fun l z => by cases z)) ea
        have ebB := sW _ _ (nS eb (fun l z => by cases z)) eb
        have gaB := tkS sW _ _ ga
        have gbB := tkS sW _ _ gb
        have eDpB := sW _ _ (nS eDpW (fun l z => by cases z)) eDpW
        refine ⟨_, rfl, Dp, .ref lm, rfl, DGet.k (k := Sum.inr (Str.ofString "most")) eDpB, .inl ⟨rfl, _, SqL.of elmB⟩, _, rfl, _, rfl, _, rfl, a1, .ref aa, rfl, by rw [← fa]; exact DGet.k (k := Sum.inr n) eaB, _, rfl, _, rfl, a2, .ref ab, rfl, by rw [← fb]; exact DGet.k (k := Sum.inr n) ebB, aa, ab, _, _, rfl, .inr ⟨SqT.of gaB, SqT.of gbB, fun D2 hD2 => ?_⟩⟩
        refine lc_lst (List.range many) (walk_zipT (K := K) (n := (List.range many).length) (by rw [List.length_map, List.length_map, rowI_len, rowI_len, List.length_range, Nat.min_self])) hD2 (fun H s => ⟨SqT.of (s _ _ gaB), SqT.of (s _ _ gbB)⟩) (fun _ => true) (fun p => .int (if R2 n p > R1 n p then R2 n p else R1 n p)) (by rw [List.length_range]; omega)
          (fun i2 p x H3 H4 hi2 s3 hy2 N2 R3 _ r2 => ?_) (fun H3 ys3 s3 e3 t3 => ?_)
        · obtain ⟨T2, x1, x2, rfl, hT, rfl, g1, g2⟩ := hy2
          have hp2 : i2 < many ∧ p = i2 := by
            have := List.getElem?_eq_some_iff.mp hi2
            obtain ⟨q1, q2⟩ := this
            rw [List.length_range] at q1
            rw [List.getElem_range] at q2
            exact ⟨q1, q2.symm⟩
          obtain ⟨hp2, rfl⟩ := hp2
          dsimp only at g1 g2
          rw [List.getElem?_map, rowI_get hp2] at g1 g2
          cases g1
          cases g2
          exact ⟨_, _, rfl, SqT.of upd_same, rfl, _, _, rfl, _, _, rfl, rfl, rfl, yesT ⟨_, rfl, _, rfl, _, _, rfl, r2 _ _ (Same.new hT) rfl (.int _)⟩⟩
        rw [flt_true] at t3
        have eys := TvAll.ints_of t3
        refine ⟨_, _, rfl, SqL.of e3, fun l hl2 => ⟨by show 2 ≤ sizeLine; decide, fun pt hpt => ?_⟩⟩
        have sl := s3.trans (Same.new (o := .tup ys3) hl2)
        have el : Tv (upd H3 l (.tup ys3)) (.ref l) (rowD (fun n p => if R2 n p > R1 n p then R2 n p else R1 n p) many n) := .tup upd_same (by
          rw [eys]
          exact TvAll.ints _)
        generalize upd H3 l (.tup ys3) = H5 at sl el hpt ⊢
        have sp := sl.trans (Same.new (o := .tup [.str n, .ref l]) hpt)
        have ept := upd_same (H := H5) (a := pt) (o := .tup [.str n, .ref l])
        have elp := el.m (Same.new (o := .tup [.str n, .ref l]) hpt).tk
        generalize upd H5 pt (.tup [.str n, .ref l]) = H6' at sp ept elp ⊢
        refine ⟨lm, _, _, rfl, rfl, sp _ _ elmB, by have := Paired.length plmB; rw [List.length_take] at this; show _ < sizeLine; unfold sizeLine; omega, ?_⟩
        have tkP := sp.tk
        have elmP := sp _ _ elmB
        have ellP := sp _ _ ellB
        have sP : Sx (fun x => x = lm ∨ x = ll) HW H6' := sW.trans (same_sx sp)
        have bgP := bgB.m sp
        have eaP := sp _ _ eaB
        have ebP := sp _ _ ebB
        have gaP := sp _ _ gaB
        have gbP := sp _ _ gbB
        have eDpP := sp _ _ eDpB
        have sC : Sx (fun x => x = lm ∨ x = ll) HW (upd H6' lm (.lst (xm ++ [.ref pt]))) := Sx.at sP (.inl rfl)
        have tkC : TK H6' (upd H6' lm (.lst (xm ++ [.ref pt]))) := (show Sx (S1 lm) H6' _ from Sx.at (Sx.refl _) rfl).tk fun a xs z e => by
          cases (show a = lm from z)
          rw [elmP] at e
          cases e
        have nl : ∀ {x : Addr} {o}, H6' x = some o → (∀ l, o ≠ .lst l) → upd H6' lm (.lst (xm ++ [.ref pt])) x = some o := fun {x o} e hne => by
          have : x ≠ lm := fun z => by subst z; rw [elmP] at e; exact hne _ (Option.some.inj e).symm
          rw [upd_ne this]; exact e
        have bgC := bgP.upd (o := .lst (xm ++ [.ref pt])) lmb lmc
        have elmC := upd_same (H := H6') (a := lm) (o := .lst (xm ++ [.ref pt]))
        have ellC : upd H6' lm (.lst (xm ++ [.ref pt])) ll = some (.lst xl) := by rw [upd_ne (Ne.symm ml)]; exact ellP
        have plmC : Paired (RowV (upd H6' lm (.lst (xm ++ [.ref pt]))) many (fun n p => if R2 n p > R1 n p then R2 n p else R1 n p)) (h.names.take (i + 1)) (xm ++ [.ref pt]) := by
          rw [etk]
          exact Paired.snoc (Paired.mapP plmB fun _ _ t => (t.m tkP).m tkC) ⟨pt, _, rfl, nl ept (fun l z => by cases z), elp.m tkC⟩
        have pllC := Paired.mapP pllB fun _ _ t => (t.m tkP).m tkC
        have eaC := nl eaP (fun l z => by cases z)
        have ebC := nl ebP (fun l z => by cases z)
        have gaC := nl gaP (fun l z => by cases z)
        have gbC := nl gbP (fun l z => by cases z)
        have eDpC := nl eDpP (fun l z => by cases z)
        clear sP tkP elmP ellP bgP eaP ebP gaP gbP eDpP nl tkC ept elp sp sl el s3 e3 t3 eys
        generalize upd H6' lm (.lst (xm ++ [.ref pt])) = HC' at sC bgC elmC ellC plmC pllC eaC ebC gaC gbC eDpC ⊢
        refine ⟨_, rfl, Dp, .ref ll, rfl, DGet.k (k := Sum.inr (Str.ofString "least")) eDpC, .inl ⟨rfl, _, SqL.of ellC⟩, _, rfl, _, rfl, _, rfl, a1, .ref aa, rfl, by rw [← fa]; exact DGet.k (k := Sum.inr n) eaC, _, rfl, _, rfl, a2, .ref ab, rfl, by rw [← fb]; exact DGet.k (k := Sum.inr n) ebC, aa, ab, _, _, rfl, .inr ⟨SqT.of gaC, SqT.of gbC, fun D2 hD2 => ?_⟩⟩
        refine lc_lst (List.range many) (walk_zipT (K := K) (n := (List.range many).length) (by rw [List.length_map, List.length_map, rowI_len, rowI_len, List.length_range, Nat.min_self])) hD2 (fun H s => ⟨SqT.of (s _ _ gaC), SqT.of (s _ _ gbC)⟩) (fun _ => true) (fun p => .int (if R2 n p < R1 n p then R2 n p else R1 n p)) (by rw [List.length_range]; omega)
          (fun i2 p x H3 H4 hi2 s3 hy2 N2 R3 _ r2 => ?_) (fun H3 ys3 s3 e3 t3 => ?_)
        · obtain ⟨T2, x1, x2, rfl, hT, rfl, g1, g2⟩ := hy2
          have hp2 : i2 < many ∧ p = i2 := by
            have := List.getElem?_eq_some_iff.mp hi2
            obtain ⟨q1, q2⟩ := this
            rw [List.length_range] at q1
            rw [List.getElem_range] at q2
            exact ⟨q1, q2.symm⟩
          obtain ⟨hp2, rfl⟩ := hp2
          dsimp only at g1 g2
          rw [List.getElem?_map, rowI_get hp2] at g1 g2
          cases g1
          cases g2
          exact ⟨_, _, rfl, SqT.of upd_same, rfl, _, _, rfl, _, _, rfl, rfl, rfl, yesT ⟨_, rfl, _, rfl, _, _, rfl, r2 _ _ (Same.new hT) rfl (.int _)⟩⟩
        rw [flt_true] at t3
        have eys := TvAll.ints_of t3
        refine ⟨_, _, rfl, SqL.of e3, fun l hl2 => ⟨by show 2 ≤ sizeLine; decide, fun pt hpt => ?_⟩⟩
        have sl := s3.trans (Same.new (o := .tup ys3) hl2)
        have el : Tv (upd H3 l (.tup ys3)) (.ref l) (rowD (fun n p => if R2 n p < R1 n p then R2 n p else R1 n p) many n) := .tup upd_same (by
          rw [eys]
          exact TvAll.ints _)
        generalize upd H3 l (.tup ys3) = H5 at sl el hpt ⊢
        have sp := sl.trans (Same.new (o := .tup [.str n, .ref l]) hpt)
        have ept := upd_same (H := H5) (a := pt) (o := .tup [.str n, .ref l])
        have elp := el.m (Same.new (o := .tup [.str n, .ref l]) hpt).tk
        generalize upd H5 pt (.tup [.str n, .ref l]) = H6' at sp ept elp ⊢
        refine ⟨ll, _, _, rfl, rfl, sp _ _ ellC, by have := Paired.length pllC; rw [List.length_take] at this; show _ < sizeLine; unfold sizeLine; omega, ?_⟩
        have sP : Sx (fun x => x = lm ∨ x = ll) HW (upd H6' ll (.lst (xl ++ [.ref pt]))) := Sx.at (sC.trans (same_sx sp)) (.inr rfl)
        have ellP := sp _ _ ellC
        have tkE : TK H6' (upd H6' ll (.lst (xl ++ [.ref pt]))) := (show Sx (S1 ll) H6' _ from Sx.at (Sx.refl _) rfl).tk fun a xs z e => by
          cases (show a = ll from z)
          rw [ellP] at e
          cases e
        have ept' : upd H6' ll (.lst (xl ++ [.ref pt])) pt = some (.tup [.str n, .ref l]) := tkE _ _ ept
        refine ⟨⟨_, rfl⟩, sP, (bgC.m sp).upd llb llc, ⟨_, by rw [upd_ne ml]; exact sp _ _ elmC, Paired.mapP plmC fun _ _ t => (t.m sp.tk).m tkE⟩, _, upd_same, ?_⟩
        rw [etk]
        exact Paired.snoc (Paired.mapP pllC fun _ _ t => (t.m sp.tk).m tkE) ⟨pt, _, rfl, ept', elp.m tkE⟩
      · obtain ⟨⟨o14, rfl⟩, sW, bgV, ⟨xm, elmV, plmV⟩, xl, ellV, pllV⟩ := q
        rw [List.take_length] at plmV pllV
        have nk : ∀ {x : Addr} {o}, HW x = some o → (∀ l, o ≠ .lst l) → HV x = some o := fun {x o} e hne => sW _ _ (nS e hne) e
        have upW : ∀ {x : Addr} {R}, RunAt HW x h.names many R → RunAt HV x h.names many R := fun {x R} t => t.x (fun o e => by
          obtain ⟨kvs, e2⟩ := t.dk
          have e3 := e.symm.trans e2
          cases Option.some.inj e3
          exact nk e2 (fun l z => by cases z)) (tkS sW)
        have r1V := upW r1W
        have r2V := upW r2W
        have tvV := tvW.m (tkS sW)
        have edV := nk edW (fun l z => by cases z)
        have eDpV := nk eDpW (fun l z => by cases z)
        have gX := gB1.max gB2
        have gN := gB1.min gB2
        have Rmin : (fun n p => if R1 n p < R2 n p then R1 n p else R2 n p) = (fun n p => if R2 n p < R1 n p then R2 n p else R1 n p) := by
          funext n p
          split <;> split <;> omega
        obtain ⟨kb, eb, pb'⟩ := id r2V
        refine ⟨_, rfl, _, rfl, _, rfl, a2, kb, rfl, eb, fun HT tl ts sT htl hts htn eT prT => ?_⟩
        have bgT := bgV.m sT
        have tlb : tl ≠ b := fun z => by subst z; exact bgV.there.1 htl
        have prI := rows_join prT (Paired.mapP pb' fun _ _ t => ⟨t.1, t.2.m (show Same HV HT from sT).tk⟩)
        have hts4 : (ts.map V.ref).length = h.names.length := (Paired.length prI).symm
        refine ⟨b, c, tl, ts.map V.ref, rfl, bgT, eT, tlb, by omega, fun mp HM ys sM bgM hmp eM permM => ?_⟩
        obtain ⟨ms, pms, prM⟩ := paired_perm permM.symm prI
        have tkM := bgT.tk sM
        have sTM : Sx (S1 b) HV HM := (same_sx (show Same HV HT from sT)).trans sM
        have nb : ∀ {x : Addr} {o}, HV x = some o → (∀ l, o ≠ .lst l) → HM x = some o := fun {x o} e hne => sTM _ _ (fun z => by
          cases (show x = b from z)
          obtain ⟨x0, x1, x2, ns', hb', _⟩ := bgV.ex
          rw [hb'] at e
          exact hne _ (Option.some.inj e).symm) e
        have tkVM := bgV.tk sTM
        have upM : ∀ {x : Addr} {R}, RunAt HV x h.names many R → RunAt HM x h.names many R := fun {x R} t => t.x (fun o e => by
          obtain ⟨kvs, e2⟩ := t.dk
          have e3 := e.symm.trans e2
          cases Option.some.inj e3
          exact nb e2 (fun l z => by cases z)) tkVM
        have r1M := upM r1V
        have r2M := upM r2V
        have tvM := tvV.m tkVM
        have edM := nb edV (fun l z => by cases z)
        have eDpM := nb eDpV (fun l z => by cases z)
        have elmM := sTM _ _ lmb elmV
        have ellM := sTM _ _ llb ellV
        have plmM := Paired.mapP plmV fun _ _ t => t.m tkVM
        have pllM := Paired.mapP pllV fun _ _ t => t.m tkVM
        have prM' := Paired.mapP prM fun _ _ t => t.m tkM
        have msnd : ms.Nodup := pms.nodup_iff.mpr ok.nd
        obtain ⟨psM, kvM, zM1, zM2, zM3⟩ := dict_rows (K := K) eM prM' msnd
        refine ⟨mp, psM, kvM, rfl, zM1, zM2, fun q1 hq1 => ?_⟩
        obtain ⟨sN, rq1⟩ := zM3 q1 hq1
        generalize upd HM q1 (.dK (mergeK [] kvM)) = HN at sN rq1 ⊢
        refine ⟨a1, q1, many, h.names, ms, R1, R2, rfl, r1M.m sN, rq1, fun n hn => pms.mem_iff.mpr hn, ok.nd, ok.srt, by omega, by omega, fun gx HO1 sO hgx rgx => ?_⟩
        have sMO := sN.trans sO
        refine ⟨_, rfl, _, rfl, a2, a1, many, h.names, h.names, R2, R1, rfl, r2M.m sMO, r1M.m sMO, fun n hn => hn, ok.nd, ok.srt, by omega, by omega, fun gn HP sP hgn rgn => ⟨by show 2 ≤ sizeLine; decide, fun to hto => ?_⟩⟩
        have kto : Same HP (upd HP to (.lst [.ref gx, .ref gn])) := Same.new hto
        have eto := upd_same (H := HP) (a := to) (o := .lst [.ref gx, .ref gn])
        generalize upd HP to (.lst [.ref gx, .ref gn]) = HQ at kto eto ⊢
        have sMQ := sMO.trans (sP.trans kto)
        have rgxQ := rgx.m (sP.trans kto)
        have rgnQ := (rgn.m kto).congr (R' := (fun n p => if R2 n p < R1 n p then R2 n p else R1 n p)) fun n _ p _ => congrFun (congrFun Rmin n) p
        have plmQ := Paired.mapP plmM fun _ _ t => t.m sMQ.tk
        have pllQ := Paired.mapP pllM fun _ _ t => t.m sMQ.tk
        obtain ⟨ps1, kv1, z1, z2, z3⟩ := dict_rows (K := K) (sMQ _ _ elmM) plmQ ok.nd
        refine ⟨_, rfl, _, rfl, Dp, .ref lm, rfl, DGet.k (k := Sum.inr (Str.ofString "most")) (sMQ _ _ eDpM), lm, ps1, kv1, rfl, z1, z2, fun p1 hp1 => ?_⟩
        obtain ⟨k1, rp1⟩ := z3 p1 hp1
        generalize upd HQ p1 (.dK (mergeK [] kv1)) = HR at k1 rp1 ⊢
        have pllR := Paired.mapP pllQ fun _ _ t => t.m k1.tk
        obtain ⟨ps2, kv2, y1, y2, y3⟩ := dict_rows (K := K) (k1 _ _ (sMQ _ _ ellM)) pllR ok.nd
        refine ⟨_, rfl, Dp, .ref ll, rfl, DGet.k (k := Sum.inr (Str.ofString "least")) (k1 _ _ (sMQ _ _ eDpM)), ll, ps2, kv2, rfl, y1, y2, fun p2 hp2 => ?_⟩
        obtain ⟨k2, rp2⟩ := y3 p2 hp2
        generalize upd HR p2 (.dK (mergeK [] kv2)) = HS at k2 rp2 ⊢
        refine ⟨by show 2 ≤ sizeLine; decide, fun tw htw => ?_⟩
        have k3 : Same HS (upd HS tw (.lst [.ref p1, .ref p2])) := Same.new htw
        have etw := upd_same (H := HS) (a := tw) (o := .lst [.ref p1, .ref p2])
        generalize upd HS tw (.lst [.ref p1, .ref p2]) = HT2 at k3 etw ⊢
        have kQT := k1.trans (k2.trans k3)
        refine ⟨to, tw, rfl, .inr ⟨gx, gn, p1, p2, h.names, many, _, _, kQT _ _ eto, etw, rgxQ.m kQT, rp1.m (k2.trans k3), rgnQ.m kQT, rp2.m k3, gX.ok, gN.ok⟩, ⟨_, rfl, iteF ?_⟩⟩
        have sMT := sMQ.trans kQT
        refine ⟨_, rfl, _, rfl, _, rfl, to, _, 0, _, rfl, rfl, SqL.of (kQT _ _ eto), atI_nat rfl, v, d, gx, many, h, st, _, rfl, tvM.m sMT.tk, ok, sMT _ _ edM, rgxQ.m kQT, by omega, gX.kept, fun n _ p _ => gX.nn n p, fun HU1 s1' => ⟨_, rfl, iteF ?_⟩⟩
        have kQ1 := kQT.trans s1'
        have sM1 := sMT.trans s1'
        refine ⟨_, rfl, _, rfl, _, rfl, to, _, 1, _, rfl, rfl, SqL.of (kQ1 _ _ eto), atI_nat rfl, v, d, gn, many, h, st, _, rfl, tvM.m sM1.tk, ok, sM1 _ _ edM, rgnQ.m kQ1, by omega, gN.kept, fun n _ p _ => gN.nn n p, fun HU2 s2' => ⟨_, rfl, iteF ?_⟩⟩
        have kQ2 := kQ1.trans s2'
        have sM2 := sM1.trans s2'
        obtain ⟨kgx, egx⟩ := (rgxQ.m kQ2).dk
        refine ⟨_, rfl, to, _, 0, _, rfl, rfl, SqL.of (kQ2 _ _ eto), atI_nat rfl, .inr (.inr (.inl ⟨rfl, .inl ⟨kgx, egx⟩⟩)), gx, kgx, rfl, rfl, egx, ?_⟩
        have hgM : HM gx = none := sN.free hgx
        have sCl : Same HM (upd HU2 gx (.dK [])) := fun x o e => by
          have : x ≠ gx := fun z => by subst z; rw [hgM] at e; cases e
          rw [upd_ne this]; exact sM2 _ _ e
        generalize upd HU2 gx (.dK []) = HE2 at sCl ⊢
        refine ⟨_, rfl, _, rfl, a1, a2, many, h.names, h.names, R1, R2, rfl, r1M.m sCl, r2M.m sCl, fun n hn => hn, ok.nd, ok.srt, by omega, by omega, fun gy HE3 s3' hgy rgy => ?_⟩
        have sM3 := sCl.trans s3'
        obtain ⟨ps3, kv3, x1, x2, x3⟩ := dict_rows (K := K) (sM3 _ _ elmM) (Paired.mapP plmM fun _ _ t => t.m sM3.tk) ok.nd
        refine ⟨_, rfl, Dp, .ref lm, rfl, DGet.k (k := Sum.inr (Str.ofString "most")) (sM3 _ _ eDpM), lm, ps3, kv3, rfl, x1, x2, fun p3 hp3 => ?_⟩
        obtain ⟨k4, rp3⟩ := x3 p3 hp3
        generalize upd HE3 p3 (.dK (mergeK [] kv3)) = HE4 at k4 rp3 ⊢
        refine ⟨gy, p3, rfl, .inl ⟨h.names, many, _, rgy.m k4, rp3, gX.ok⟩, ⟨_, rfl, iteF ?_⟩⟩
        exact ⟨⟨_, _, _, _, _, _, _, _, _, _, _, _, _, _, _, _, rfl⟩, bgM.m (sM3.trans k4)⟩
  · exact q _
end
end K41
/-! the head -/
namespace HeadK
open PySem PySem.Spec PyProof.Rows L2 K41
def dd (x : Str) (s : Stmt) : He.DefD := ⟨(x, none), x, x, defArgs s, defBody s, defScope s, [], []⟩
def fn : List He.DefD := [dd "names_of" s_names_of, dd "machine_of" s_machine_of, dd "time_of" s_time_of, dd "purses_of" s_purses_of, dd "arcs_of" s_arcs_of, dd "start_of" s_start_of, dd "end_of" s_end_of, dd "growth_of" s_growth_of, dd "does_end" s_does_end, dd "is_integer" s_is_integer, dd "is_count" s_is_count, dd "still_arcs" s_still_arcs, dd "least_back" s_least_back, dd "dead_ring" s_dead_ring, dd "rise" s_rise, dd "ticks_at" s_ticks_at, dd "links_of" s_links_of, dd "told_by" s_told_by, dd "is_kept" s_is_kept, dd "is_run" s_is_run, dd "is_earlier" s_is_earlier, dd "greatest_run" s_greatest_run, dd "least_run" s_least_run, dd "led" s_led, dd "held_back" s_held_back, dd "floors_of" s_floors_of, dd "_law_bag" s__law_bag, dd "_law_take" s__law_take, dd "_law_mixed" s__law_mixed, dd "_law_some" s__law_some, dd "_law_purses" s__law_purses, dd "_law_first" s__law_first, dd "_law_web" s__law_web, dd "_law_names" s__law_names, dd "_law_arcs" s__law_arcs, dd "_law_is_live" s__law_is_live, dd "_law_hall" s__law_hall, dd "_law_small" s__law_small, dd "_law_stops" s__law_stops, dd "_law_any_stops" s__law_any_stops, dd "_law_floors" s__law_floors, dd "_law_alike" s__law_alike, dd "_law_rows" s__law_rows, dd "_law_machine" s__law_machine, dd "_law_work" s__law_work, dd "_law_held_run" s__law_held_run, dd "_law_is_int" s__law_is_int, dd "_law_counts" s__law_counts, dd "_law_runs_right" s__law_runs_right, dd "_law_is_run" s__law_is_run, dd "law" s_law]
def fa : List He.Fa := [.glo "names_of", .glo "machine_of", .glo "time_of", .glo "purses_of", .glo "arcs_of", .glo "start_of", .glo "end_of", .glo "growth_of", .glo "does_end", .glo "is_integer", .glo "is_count", .glo "still_arcs", .glo "least_back", .glo "dead_ring", .glo "rise", .glo "ticks_at", .glo "links_of", .glo "told_by", .glo "is_kept", .glo "is_run", .glo "is_earlier", .glo "greatest_run", .glo "least_run", .glo "led", .glo "held_back", .glo "floors_of", .glo "_law_bag", .glo "_law_take", .glo "_law_mixed", .glo "_law_some", .glo "_law_purses", .glo "_law_first", .glo "_law_web", .glo "_law_names", .glo "_law_arcs", .glo "_law_is_live", .glo "_law_hall", .glo "_law_small", .glo "_law_stops", .glo "_law_any_stops", .glo "_law_floors", .glo "_law_alike", .glo "_law_rows", .glo "_law_machine", .glo "_law_work", .glo "_law_held_run", .glo "_law_is_int", .glo "_law_counts", .glo "_law_runs_right", .glo "_law_is_run", .glo "law", .free "abs", .free "all", .free "any", .free "bool", .free "dict", .free "enumerate", .free "int", .free "isinstance", .free "len", .free "list", .free "max", .free "min", .free "range", .free "repr", .free "sorted", .free "sum", .free "tuple", .free "zip"]
def loose1 : List Str := ["__name__", "HallError", "Dead", "NoMachine", "names_of", "machine_of", "time_of", "purses_of", "arcs_of", "start_of", "end_of", "growth_of", "does_end", "is_integer", "is_count", "still_arcs", "least_back", "dead_ring", "rise", "ticks_at", "links_of", "told_by", "is_kept", "is_run", "is_earlier", "greatest_run", "least_run", "led", "held_back", "floors_of"]
def loose2 : List Str := ["_law_bag", "_law_take", "_law_mixed", "_law_some", "_law_purses", "_law_first", "_law_web", "_law_names", "_law_arcs", "_law_is_live", "_law_hall", "_law_small", "_law_stops", "_law_any_stops", "_law_floors", "_law_alike", "_law_rows", "_law_machine", "_law_work", "_law_held_run", "_law_is_int", "_law_counts", "_law_runs_right", "_law_is_run"]
abbrev R : PySem.W.OpenRow := PySem.W.OpenLaw.row PySem.Challenge.rw_fillerfed_k41_whole_runs_held_back
abbrev hk : PySem.W.Hook := He.hookD 4 fa fn
def ob (s : PySem.W.SharedT) : He.AlD := He.obsDG 4 fa fn (HandSHeadRun.getT s)
theorem ob_eq (s : PySem.W.SharedT) : ob s = hk.obs s.abs := He.obsDG_eq (HandSHeadRun.getT_eq s)
theorem run (w : World) : HandSHeadRun.RunEq R (PySem.W.view R.prog [60]) hk ob 6000 (loose1 ++ loose2) w := by
  intro os
  kernel_rfl
theorem txt {K : PySem.W.Frag} {h : Heap} {mg : Str → Option Value} (X : K.In h) (G : h.Ns mainGlobals mg) (c : He.SaysD fa fn K) : Txt K mg := by
  have d_names_of : DefAt K mg "names_of" s_names_of := by
    obtain ⟨fd, F⟩ := c.def_ 0 (d := dd "names_of" s_names_of) rfl
    exact ⟨_, fd, F, He.glo_ok X G (c.fact 0 (f := .glo "names_of") rfl)⟩
  have d_machine_of : DefAt K mg "machine_of" s_machine_of := by
    obtain ⟨fd, F⟩ := c.def_ 1 (d := dd "machine_of" s_machine_of) rfl
    exact ⟨_, fd, F, He.glo_ok X G (c.fact 1 (f := .glo "machine_of") rfl)⟩
  have d_time_of : DefAt K mg "time_of" s_time_of := by
    obtain ⟨fd, F⟩ := c.def_ 2 (d := dd "time_of" s_time_of) rfl
    exact ⟨_, fd, F, He.glo_ok X G (c.fact 2 (f := .glo "time_of") rfl)⟩
  have d_purses_of : DefAt K mg "purses_of" s_purses_of := by
    obtain ⟨fd, F⟩ := c.def_ 3 (d := dd "purses_of" s_purses_of) rfl
    exact ⟨_, fd, F, He.glo_ok X G (c.fact 3 (f := .glo "purses_of") rfl)⟩
  have d_arcs_of : DefAt K mg "arcs_of" s_arcs_of := by
    obtain ⟨fd, F⟩ := c.def_ 4 (d := dd "arcs_of" s_arcs_of) rfl
    exact ⟨_, fd, F, He.glo_ok X G (c.fact 4 (f := .glo "arcs_of") rfl)⟩
  have d_start_of : DefAt K mg "start_of" s_start_of := by
    obtain ⟨fd, F⟩ := c.def_ 5 (d := dd "start_of" s_start_of) rfl
    exact ⟨_, fd, F, He.glo_ok X G (c.fact 5 (f := .glo "start_of") rfl)⟩
  have d_end_of : DefAt K mg "end_of" s_end_of := by
    obtain ⟨fd, F⟩ := c.def_ 6 (d := dd "end_of" s_end_of) rfl
    exact ⟨_, fd, F, He.glo_ok X G (c.fact 6 (f := .glo "end_of") rfl)⟩
  have d_growth_of : DefAt K mg "growth_of" s_growth_of := by
    obtain ⟨fd, F⟩ := c.def_ 7 (d := dd "growth_of" s_growth_of) rfl
    exact ⟨_, fd, F, He.glo_ok X G (c.fact 7 (f := .glo "growth_of") rfl)⟩
  have d_does_end : DefAt K mg "does_end" s_does_end := by
    obtain ⟨fd, F⟩ := c.def_ 8 (d := dd "does_end" s_does_end) rfl
    exact ⟨_, fd, F, He.glo_ok X G (c.fact 8 (f := .glo "does_end") rfl)⟩
  have d_is_integer : DefAt K mg "is_integer" s_is_integer := by
    obtain ⟨fd, F⟩ := c.def_ 9 (d := dd "is_integer" s_is_integer) rfl
    exact ⟨_, fd, F, He.glo_ok X G (c.fact 9 (f := .glo "is_integer") rfl)⟩
  have d_is_count : DefAt K mg "is_count" s_is_count := by
    obtain ⟨fd, F⟩ := c.def_ 10 (d := dd "is_count" s_is_count) rfl
    exact ⟨_, fd, F, He.glo_ok X G (c.fact 10 (f := .glo "is_count") rfl)⟩
  have d_still_arcs : DefAt K mg "still_arcs" s_still_arcs := by
    obtain ⟨fd, F⟩ := c.def_ 11 (d := dd "still_arcs" s_still_arcs) rfl
    exact ⟨_, fd, F, He.glo_ok X G (c.fact 11 (f := .glo "still_arcs") rfl)⟩
  have d_least_back : DefAt K mg "least_back" s_least_back := by
    obtain ⟨fd, F⟩ := c.def_ 12 (d := dd "least_back" s_least_back) rfl
    exact ⟨_, fd, F, He.glo_ok X G (c.fact 12 (f := .glo "least_back") rfl)⟩
  have d_dead_ring : DefAt K mg "dead_ring" s_dead_ring := by
    obtain ⟨fd, F⟩ := c.def_ 13 (d := dd "dead_ring" s_dead_ring) rfl
    exact ⟨_, fd, F, He.glo_ok X G (c.fact 13 (f := .glo "dead_ring") rfl)⟩
  have d_rise : DefAt K mg "rise" s_rise := by
    obtain ⟨fd, F⟩ := c.def_ 14 (d := dd "rise" s_rise) rfl
    exact ⟨_, fd, F, He.glo_ok X G (c.fact 14 (f := .glo "rise") rfl)⟩
  have d_ticks_at : DefAt K mg "ticks_at" s_ticks_at := by
    obtain ⟨fd, F⟩ := c.def_ 15 (d := dd "ticks_at" s_ticks_at) rfl
    exact ⟨_, fd, F, He.glo_ok X G (c.fact 15 (f := .glo "ticks_at") rfl)⟩
  have d_links_of : DefAt K mg "links_of" s_links_of := by
    obtain ⟨fd, F⟩ := c.def_ 16 (d := dd "links_of" s_links_of) rfl
    exact ⟨_, fd, F, He.glo_ok X G (c.fact 16 (f := .glo "links_of") rfl)⟩
  have d_told_by : DefAt K mg "told_by" s_told_by := by
    obtain ⟨fd, F⟩ := c.def_ 17 (d := dd "told_by" s_told_by) rfl
    exact ⟨_, fd, F, He.glo_ok X G (c.fact 17 (f := .glo "told_by") rfl)⟩
  have d_is_kept : DefAt K mg "is_kept" s_is_kept := by
    obtain ⟨fd, F⟩ := c.def_ 18 (d := dd "is_kept" s_is_kept) rfl
    exact ⟨_, fd, F, He.glo_ok X G (c.fact 18 (f := .glo "is_kept") rfl)⟩
  have d_is_run : DefAt K mg "is_run" s_is_run := by
    obtain ⟨fd, F⟩ := c.def_ 19 (d := dd "is_run" s_is_run) rfl
    exact ⟨_, fd, F, He.glo_ok X G (c.fact 19 (f := .glo "is_run") rfl)⟩
  have d_is_earlier : DefAt K mg "is_earlier" s_is_earlier := by
    obtain ⟨fd, F⟩ := c.def_ 20 (d := dd "is_earlier" s_is_earlier) rfl
    exact ⟨_, fd, F, He.glo_ok X G (c.fact 20 (f := .glo "is_earlier") rfl)⟩
  have d_greatest_run : DefAt K mg "greatest_run" s_greatest_run := by
    obtain ⟨fd, F⟩ := c.def_ 21 (d := dd "greatest_run" s_greatest_run) rfl
    exact ⟨_, fd, F, He.glo_ok X G (c.fact 21 (f := .glo "greatest_run") rfl)⟩
  have d_least_run : DefAt K mg "least_run" s_least_run := by
    obtain ⟨fd, F⟩ := c.def_ 22 (d := dd "least_run" s_least_run) rfl
    exact ⟨_, fd, F, He.glo_ok X G (c.fact 22 (f := .glo "least_run") rfl)⟩
  have d_led : DefAt K mg "led" s_led := by
    obtain ⟨fd, F⟩ := c.def_ 23 (d := dd "led" s_led) rfl
    exact ⟨_, fd, F, He.glo_ok X G (c.fact 23 (f := .glo "led") rfl)⟩
  have d_held_back : DefAt K mg "held_back" s_held_back := by
    obtain ⟨fd, F⟩ := c.def_ 24 (d := dd "held_back" s_held_back) rfl
    exact ⟨_, fd, F, He.glo_ok X G (c.fact 24 (f := .glo "held_back") rfl)⟩
  have d_floors_of : DefAt K mg "floors_of" s_floors_of := by
    obtain ⟨fd, F⟩ := c.def_ 25 (d := dd "floors_of" s_floors_of) rfl
    exact ⟨_, fd, F, He.glo_ok X G (c.fact 25 (f := .glo "floors_of") rfl)⟩
  have d__law_bag : DefAt K mg "_law_bag" s__law_bag := by
    obtain ⟨fd, F⟩ := c.def_ 26 (d := dd "_law_bag" s__law_bag) rfl
    exact ⟨_, fd, F, He.glo_ok X G (c.fact 26 (f := .glo "_law_bag") rfl)⟩
  have d__law_take : DefAt K mg "_law_take" s__law_take := by
    obtain ⟨fd, F⟩ := c.def_ 27 (d := dd "_law_take" s__law_take) rfl
    exact ⟨_, fd, F, He.glo_ok X G (c.fact 27 (f := .glo "_law_take") rfl)⟩
  have d__law_mixed : DefAt K mg "_law_mixed" s__law_mixed := by
    obtain ⟨fd, F⟩ := c.def_ 28 (d := dd "_law_mixed" s__law_mixed) rfl
    exact ⟨_, fd, F, He.glo_ok X G (c.fact 28 (f := .glo "_law_mixed") rfl)⟩
  have d__law_some : DefAt K mg "_law_some" s__law_some := by
    obtain ⟨fd, F⟩ := c.def_ 29 (d := dd "_law_some" s__law_some) rfl
    exact ⟨_, fd, F, He.glo_ok X G (c.fact 29 (f := .glo "_law_some") rfl)⟩
  have d__law_purses : DefAt K mg "_law_purses" s__law_purses := by
    obtain ⟨fd, F⟩ := c.def_ 30 (d := dd "_law_purses" s__law_purses) rfl
    exact ⟨_, fd, F, He.glo_ok X G (c.fact 30 (f := .glo "_law_purses") rfl)⟩
  have d__law_first : DefAt K mg "_law_first" s__law_first := by
    obtain ⟨fd, F⟩ := c.def_ 31 (d := dd "_law_first" s__law_first) rfl
    exact ⟨_, fd, F, He.glo_ok X G (c.fact 31 (f := .glo "_law_first") rfl)⟩
  have d__law_web : DefAt K mg "_law_web" s__law_web := by
    obtain ⟨fd, F⟩ := c.def_ 32 (d := dd "_law_web" s__law_web) rfl
    exact ⟨_, fd, F, He.glo_ok X G (c.fact 32 (f := .glo "_law_web") rfl)⟩
  have d__law_names : DefAt K mg "_law_names" s__law_names := by
    obtain ⟨fd, F⟩ := c.def_ 33 (d := dd "_law_names" s__law_names) rfl
    exact ⟨_, fd, F, He.glo_ok X G (c.fact 33 (f := .glo "_law_names") rfl)⟩
  have d__law_arcs : DefAt K mg "_law_arcs" s__law_arcs := by
    obtain ⟨fd, F⟩ := c.def_ 34 (d := dd "_law_arcs" s__law_arcs) rfl
    exact ⟨_, fd, F, He.glo_ok X G (c.fact 34 (f := .glo "_law_arcs") rfl)⟩
  have d__law_is_live : DefAt K mg "_law_is_live" s__law_is_live := by
    obtain ⟨fd, F⟩ := c.def_ 35 (d := dd "_law_is_live" s__law_is_live) rfl
    exact ⟨_, fd, F, He.glo_ok X G (c.fact 35 (f := .glo "_law_is_live") rfl)⟩
  have d__law_hall : DefAt K mg "_law_hall" s__law_hall := by
    obtain ⟨fd, F⟩ := c.def_ 36 (d := dd "_law_hall" s__law_hall) rfl
    exact ⟨_, fd, F, He.glo_ok X G (c.fact 36 (f := .glo "_law_hall") rfl)⟩
  have d__law_small : DefAt K mg "_law_small" s__law_small := by
    obtain ⟨fd, F⟩ := c.def_ 37 (d := dd "_law_small" s__law_small) rfl
    exact ⟨_, fd, F, He.glo_ok X G (c.fact 37 (f := .glo "_law_small") rfl)⟩
  have d__law_stops : DefAt K mg "_law_stops" s__law_stops := by
    obtain ⟨fd, F⟩ := c.def_ 38 (d := dd "_law_stops" s__law_stops) rfl
    exact ⟨_, fd, F, He.glo_ok X G (c.fact 38 (f := .glo "_law_stops") rfl)⟩
  have d__law_any_stops : DefAt K mg "_law_any_stops" s__law_any_stops := by
    obtain ⟨fd, F⟩ := c.def_ 39 (d := dd "_law_any_stops" s__law_any_stops) rfl
    exact ⟨_, fd, F, He.glo_ok X G (c.fact 39 (f := .glo "_law_any_stops") rfl)⟩
  have d__law_floors : DefAt K mg "_law_floors" s__law_floors := by
    obtain ⟨fd, F⟩ := c.def_ 40 (d := dd "_law_floors" s__law_floors) rfl
    exact ⟨_, fd, F, He.glo_ok X G (c.fact 40 (f := .glo "_law_floors") rfl)⟩
  have d__law_alike : DefAt K mg "_law_alike" s__law_alike := by
    obtain ⟨fd, F⟩ := c.def_ 41 (d := dd "_law_alike" s__law_alike) rfl
    exact ⟨_, fd, F, He.glo_ok X G (c.fact 41 (f := .glo "_law_alike") rfl)⟩
  have d__law_rows : DefAt K mg "_law_rows" s__law_rows := by
    obtain ⟨fd, F⟩ := c.def_ 42 (d := dd "_law_rows" s__law_rows) rfl
    exact ⟨_, fd, F, He.glo_ok X G (c.fact 42 (f := .glo "_law_rows") rfl)⟩
  have d__law_machine : DefAt K mg "_law_machine" s__law_machine := by
    obtain ⟨fd, F⟩ := c.def_ 43 (d := dd "_law_machine" s__law_machine) rfl
    exact ⟨_, fd, F, He.glo_ok X G (c.fact 43 (f := .glo "_law_machine") rfl)⟩
  have d__law_work : DefAt K mg "_law_work" s__law_work := by
    obtain ⟨fd, F⟩ := c.def_ 44 (d := dd "_law_work" s__law_work) rfl
    exact ⟨_, fd, F, He.glo_ok X G (c.fact 44 (f := .glo "_law_work") rfl)⟩
  have d__law_held_run : DefAt K mg "_law_held_run" s__law_held_run := by
    obtain ⟨fd, F⟩ := c.def_ 45 (d := dd "_law_held_run" s__law_held_run) rfl
    exact ⟨_, fd, F, He.glo_ok X G (c.fact 45 (f := .glo "_law_held_run") rfl)⟩
  have d__law_is_int : DefAt K mg "_law_is_int" s__law_is_int := by
    obtain ⟨fd, F⟩ := c.def_ 46 (d := dd "_law_is_int" s__law_is_int) rfl
    exact ⟨_, fd, F, He.glo_ok X G (c.fact 46 (f := .glo "_law_is_int") rfl)⟩
  have d__law_counts : DefAt K mg "_law_counts" s__law_counts := by
    obtain ⟨fd, F⟩ := c.def_ 47 (d := dd "_law_counts" s__law_counts) rfl
    exact ⟨_, fd, F, He.glo_ok X G (c.fact 47 (f := .glo "_law_counts") rfl)⟩
  have d__law_runs_right : DefAt K mg "_law_runs_right" s__law_runs_right := by
    obtain ⟨fd, F⟩ := c.def_ 48 (d := dd "_law_runs_right" s__law_runs_right) rfl
    exact ⟨_, fd, F, He.glo_ok X G (c.fact 48 (f := .glo "_law_runs_right") rfl)⟩
  have d__law_is_run : DefAt K mg "_law_is_run" s__law_is_run := by
    obtain ⟨fd, F⟩ := c.def_ 49 (d := dd "_law_is_run" s__law_is_run) rfl
    exact ⟨_, fd, F, He.glo_ok X G (c.fact 49 (f := .glo "_law_is_run") rfl)⟩
  have d_law : DefAt K mg "law" s_law := by
    obtain ⟨fd, F⟩ := c.def_ 50 (d := dd "law" s_law) rfl
    exact ⟨_, fd, F, He.glo_ok X G (c.fact 50 (f := .glo "law") rfl)⟩
  exact { d_names_of := d_names_of, d_machine_of := d_machine_of, d_time_of := d_time_of, d_purses_of := d_purses_of, d_arcs_of := d_arcs_of, d_start_of := d_start_of, d_end_of := d_end_of, d_growth_of := d_growth_of, d_does_end := d_does_end, d_is_integer := d_is_integer, d_is_count := d_is_count, d_still_arcs := d_still_arcs, d_least_back := d_least_back, d_dead_ring := d_dead_ring, d_rise := d_rise, d_ticks_at := d_ticks_at, d_links_of := d_links_of, d_told_by := d_told_by, d_is_kept := d_is_kept, d_is_run := d_is_run, d_is_earlier := d_is_earlier, d_greatest_run := d_greatest_run, d_least_run := d_least_run, d_led := d_led, d_held_back := d_held_back, d_floors_of := d_floors_of, d__law_bag := d__law_bag, d__law_take := d__law_take, d__law_mixed := d__law_mixed, d__law_some := d__law_some, d__law_purses := d__law_purses, d__law_first := d__law_first, d__law_web := d__law_web, d__law_names := d__law_names, d__law_arcs := d__law_arcs, d__law_is_live := d__law_is_live, d__law_hall := d__law_hall, d__law_small := d__law_small, d__law_stops := d__law_stops, d__law_any_stops := d__law_any_stops, d__law_floors := d__law_floors, d__law_alike := d__law_alike, d__law_rows := d__law_rows, d__law_machine := d__law_machine, d__law_work := d__law_work, d__law_held_run := d__law_held_run, d__law_is_int := d__law_is_int, d__law_counts := d__law_counts, d__law_runs_right := d__law_runs_right, d__law_is_run := d__law_is_run, d_law := d_law, b_abs := He.free_ok X G (c.fact 51 (f := .free "abs") rfl), b_all := He.free_ok X G (c.fact 52 (f := .free "all") rfl), b_any := He.free_ok X G (c.fact 53 (f := .free "any") rfl), b_bool := He.free_ok X G (c.fact 54 (f := .free "bool") rfl), b_dict := He.free_ok X G (c.fact 55 (f := .free "dict") rfl), b_enumerate := He.free_ok X G (c.fact 56 (f := .free "enumerate") rfl), b_int := He.free_ok X G (c.fact 57 (f := .free "int") rfl), b_isinstance := He.free_ok X G (c.fact 58 (f := .free "isinstance") rfl), b_len := He.free_ok X G (c.fact 59 (f := .free "len") rfl), b_list := He.free_ok X G (c.fact 60 (f := .free "list") rfl), b_max := He.free_ok X G (c.fact 61 (f := .free "max") rfl), b_min := He.free_ok X G (c.fact 62 (f := .free "min") rfl), b_range := He.free_ok X G (c.fact 63 (f := .free "range") rfl), b_repr := He.free_ok X G (c.fact 64 (f := .free "repr") rfl), b_sorted := He.free_ok X G (c.fact 65 (f := .free "sorted") rfl), b_sum := He.free_ok X G (c.fact 66 (f := .free "sum") rfl), b_tuple := He.free_ok X G (c.fact 67 (f := .free "tuple") rfl), b_zip := He.free_ok X G (c.fact 68 (f := .free "zip") rfl) }
theorem facts {P : Program} {w : World} {K : PySem.W.Frag} {h : Heap} {mg : Str → Option Value} {f : Addr} (X : K.In h) (G : h.Ns mainGlobals mg) (hfa : mg ("law" : Str) = some (.ref f)) (c : He.SaysD fa fn K) :
    ∃ fd : FuncData, (∀ (s : Shared) (v : Value), BindsTo s fd ⟨[v], []⟩ [("_law_script", v)]) ∧ ∀ base : Heap, K.In base → base.Ns mainGlobals mg → FnG P w K mg base 9 f fd ["_law_script"] (sp_law K) := by
  have T := txt X G c
  obtain ⟨fd, F⟩ := c.def_ 50 (d := dd "law" s_law) rfl
  have e := hfa.symm.trans (He.glo_ok X G (c.fact 50 (f := .glo "law") rfl))
  cases e
  have b := FunD.bindsA (ps := p_law) F fun kV doc pm an cdv ct us hl => bi_law kV doc pm an cdv ct us hl
  exact ⟨fd, fun s v => b s [v] rfl, fun base _ _ => c_law T F⟩
end HeadK
open PySem PySem.W PySem.Calls PyProof.Rows
theorem PySem.Challenge.cw_fillerfed_k41_whole_runs_held_back_holds : PySem.Challenge.rw_fillerfed_k41_whole_runs_held_back.Holds := by
  w_on; o_law
  refine HandSHeadRun.head_any (r := OpenLaw.row PySem.Challenge.rw_fillerfed_k41_whole_runs_held_back) (q := view (OpenLaw.row PySem.Challenge.rw_fillerfed_k41_whole_runs_held_back).prog [60]) (H := HeadK.hk) (ob := HeadK.ob) (M := 6000) (loose := HeadK.loose1 ++ HeadK.loose2) (d := HandSHeadRun.topDef (OpenLaw.row PySem.Challenge.rw_fillerfed_k41_whole_runs_held_back).prog 60) (kwd := []) HeadK.ob_eq
    (by kernel_rfl) (fun s => by kernel_rfl) HeadK.run (by kernel_rfl) (by kernel_rfl) (by kernel_rfl) (by rfl) (by first | assumption | decide +kernel) (by decide +kernel) ⟨rfl, rfl, rfl, rfl, rfl, by decide +kernel⟩ ?hw ?hc
  case hw => w_witness2
  case hc =>
    refine K41.walk_ofG (l := PySem.Challenge.rw_fillerfed_k41_whole_runs_held_back) (n := 63) (k := 9) (x := "_law_script") rfl (by decide) (by kernel_rfl) ⟨rfl, by decide, by decide⟩ ?F
    intro w mg fa h Y G hmg0
    obtain ⟨K, KX, c⟩ := Y
    have hmg : mg ("law" : PySem.Str) = some (.ref fa) := by
      have e : (HandSHeadRun.topDef (OpenLaw.row PySem.Challenge.rw_fillerfed_k41_whole_runs_held_back).prog 60).name = ("law" : PySem.Str) := by kernel_rfl
      rw [← e]
      exact hmg0
    obtain ⟨fd, hb, hF⟩ := HeadK.facts (P := (PySem.Challenge.rw_fillerfed_k41_whole_runs_held_back).prog) (w := w) KX G hmg c
    exact ⟨K, fd, K41.sp_law K, KX, hb, fun H a ns hl _ hS => ⟨a, ns, rfl, hS, hl, fun _ => rfl⟩, hF⟩
